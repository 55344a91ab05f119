import PyProof.Rows.All
import Wide.All
import OpenK.AllK
import Wide.FinOn
import HandS.ForMost
import HandS.Conv
import HandS.IsInst
import HandS.Style
import HandS.TupAny
import HandS.TupLe
import HandS.Deep
import HandS.SetKeys
import HandS.NoneIn
import HandS.Property
import HandS.Rev
import HandS.HeadHook1
import KE.KeyNested
import PyProof.DictRoadsH
import KE.SortData
import KE.SortLaws
import KE.KDictCopyH
import HandS.TupLen
import PyProof.DictMoreH
import HandS.DictTup
import PyProof.AutoSeq1
import HandS.More
import HandS.Flow
import KE.GoesEnum
import KE.GoesNew
import HandS.Zip
import HandS.Strs
import HandS.DictComp
import KE.KDictDisplayH
import HandS.Dict
import HandS.Head0
import HandS.Head1
import HandS.Head2
import HandS.HeadEnd
import HandS.HeadHook2
import HandS.Defaults
import PySem.Challenge.RW_holdstill_k80_whole_cut_tables
set_option Elab.async false
set_option linter.all false
set_option maxRecDepth 100000
set_option maxHeartbeats 4000000
/-! Pl: pure values over the abstract heap, a small syntax, what it asks. -/
namespace Pl
open PySem L2

abbrev Fg := PySem.W.Frag
/-- what is written, and the world that hashes -/
abbrev Kw := Fg × PySem.World
instance kwFg : CoeOut Kw Fg := ⟨Prod.fst⟩
abbrev kwX (X : L2.Cx) : Kw := (X.K, X.w)

/-- pure values: tuples are values; ref: something that can change; rol: a list that is only read; dtp: a tuple that is known to have no dict -/
inductive U where
  | non | bl (b : Bool) | int (i : Int) | str (x : Str) | tup (l : List U) | ref (a : Addr) | rol (l : List U) | dtp (l : List U)

mutual
def U.dec : (x y : U) → Decidable (x = y)
  | .non, .non => .isTrue rfl
  | .bl a, .bl b => if h : a = b then .isTrue (by rw [h]) else .isFalse (fun e => h (by injection e))
  | .int a, .int b => if h : a = b then .isTrue (by rw [h]) else .isFalse (fun e => h (by injection e))
  | .str a, .str b => if h : a = b then .isTrue (by rw [h]) else .isFalse (fun e => h (by injection e))
  | .ref a, .ref b => if h : a = b then .isTrue (by rw [h]) else .isFalse (fun e => h (by injection e))
  | .tup a, .tup b => match U.decL a b with
    | .isTrue h => .isTrue (by rw [h])
    | .isFalse h => .isFalse (fun e => h (by injection e))
  | .rol a, .rol b => match U.decL a b with
    | .isTrue h => .isTrue (by rw [h])
    | .isFalse h => .isFalse (fun e => h (by injection e))
  | .non, .bl _ => .isFalse (fun e => nomatch e)
  | .non, .int _ => .isFalse (fun e => nomatch e)
  | .non, .str _ => .isFalse (fun e => nomatch e)
  | .non, .tup _ => .isFalse (fun e => nomatch e)
  | .non, .ref _ => .isFalse (fun e => nomatch e)
  | .non, .rol _ => .isFalse (fun e => nomatch e)
  | .bl _, .non => .isFalse (fun e => nomatch e)
  | .bl _, .int _ => .isFalse (fun e => nomatch e)
  | .bl _, .str _ => .isFalse (fun e => nomatch e)
  | .bl _, .tup _ => .isFalse (fun e => nomatch e)
  | .bl _, .ref _ => .isFalse (fun e => nomatch e)
  | .bl _, .rol _ => .isFalse (fun e => nomatch e)
  | .int _, .non => .isFalse (fun e => nomatch e)
  | .int _, .bl _ => .isFalse (fun e => nomatch e)
  | .int _, .str _ => .isFalse (fun e => nomatch e)
  | .int _, .tup _ => .isFalse (fun e => nomatch e)
  | .int _, .ref _ => .isFalse (fun e => nomatch e)
  | .int _, .rol _ => .isFalse (fun e => nomatch e)
  | .str _, .non => .isFalse (fun e => nomatch e)
  | .str _, .bl _ => .isFalse (fun e => nomatch e)
  | .str _, .int _ => .isFalse (fun e => nomatch e)
  | .str _, .tup _ => .isFalse (fun e => nomatch e)
  | .str _, .ref _ => .isFalse (fun e => nomatch e)
  | .str _, .rol _ => .isFalse (fun e => nomatch e)
  | .tup _, .non => .isFalse (fun e => nomatch e)
  | .tup _, .bl _ => .isFalse (fun e => nomatch e)
  | .tup _, .int _ => .isFalse (fun e => nomatch e)
  | .tup _, .str _ => .isFalse (fun e => nomatch e)
  | .tup _, .ref _ => .isFalse (fun e => nomatch e)
  | .tup _, .rol _ => .isFalse (fun e => nomatch e)
  | .ref _, .non => .isFalse (fun e => nomatch e)
  | .ref _, .bl _ => .isFalse (fun e => nomatch e)
  | .ref _, .int _ => .isFalse (fun e => nomatch e)
  | .ref _, .str _ => .isFalse (fun e => nomatch e)
  | .ref _, .tup _ => .isFalse (fun e => nomatch e)
  | .ref _, .rol _ => .isFalse (fun e => nomatch e)
  | .rol _, .non => .isFalse (fun e => nomatch e)
  | .rol _, .bl _ => .isFalse (fun e => nomatch e)
  | .rol _, .int _ => .isFalse (fun e => nomatch e)
  | .rol _, .str _ => .isFalse (fun e => nomatch e)
  | .rol _, .tup _ => .isFalse (fun e => nomatch e)
  | .rol _, .ref _ => .isFalse (fun e => nomatch e)
  | .dtp _, .non => .isFalse (fun e => nomatch e)
  | .non, .dtp _ => .isFalse (fun e => nomatch e)
  | .dtp _, .bl _ => .isFalse (fun e => nomatch e)
  | .bl _, .dtp _ => .isFalse (fun e => nomatch e)
  | .dtp _, .int _ => .isFalse (fun e => nomatch e)
  | .int _, .dtp _ => .isFalse (fun e => nomatch e)
  | .dtp _, .str _ => .isFalse (fun e => nomatch e)
  | .str _, .dtp _ => .isFalse (fun e => nomatch e)
  | .dtp _, .tup _ => .isFalse (fun e => nomatch e)
  | .tup _, .dtp _ => .isFalse (fun e => nomatch e)
  | .dtp _, .ref _ => .isFalse (fun e => nomatch e)
  | .ref _, .dtp _ => .isFalse (fun e => nomatch e)
  | .dtp _, .rol _ => .isFalse (fun e => nomatch e)
  | .rol _, .dtp _ => .isFalse (fun e => nomatch e)
  | .dtp a, .dtp b => match U.decL a b with
    | .isTrue h => .isTrue (by rw [h])
    | .isFalse h => .isFalse (fun e => h (by injection e))
def U.decL : (x y : List U) → Decidable (x = y)
  | [], [] => .isTrue rfl
  | [], _ :: _ => .isFalse (fun e => nomatch e)
  | _ :: _, [] => .isFalse (fun e => nomatch e)
  | a :: x, b :: y => match U.dec a b with
    | .isFalse h => .isFalse (fun e => h (by injection e))
    | .isTrue h => match U.decL x y with
      | .isFalse k => .isFalse (fun e => k (by injection e))
      | .isTrue k => .isTrue (by rw [h, k])
end
instance : DecidableEq U := U.dec

/-! ### values and the heap -/
/-- a tuple of numbers that the module holds -/
def KTp (K : Kw) (a : Addr) (vs : List V) : Prop := (∃ i r, vs = V.int i :: r) ∧ ∃ (o : Obj) (its : Array Value) (n : Nat), K.1.lookup a = some o ∧ o.cls = .type "tuple" ∧ o.data = .seq its n ∧ its.size ≤ sizeLine ∧ Vals vs its.toList
/-- a tuple that was laid, or that the module holds -/
def Tp (K : Kw) (H : Hp) (a : Addr) (vs : List V) : Prop :=
  H a = some (.tup vs) ∨ KTp K a vs
theorem Tp.sq {K : Kw} {H : Hp} {a : Addr} {vs : List V} (h : Tp K H a vs) : SqT K H a vs := h.elim (fun h => .inl (.inl h)) fun h => .inr h.2
/-- a list that is never written -/
def Rl (K : Kw) (H : Hp) (a : Addr) (vs : List V) : Prop :=
  (∃ o, H a = some (.frz o (.lst vs))) ∨ ∃ (o : Obj) (its : Array Value) (n : Nat), K.1.lookup a = some o ∧ o.cls = .type "list" ∧ o.dict = none ∧ o.data = .seq its n ∧ its.size ≤ sizeLine ∧ Vals vs its.toList
theorem Rl.sq {K : Kw} {H : Hp} {a : Addr} {vs : List V} (h : Rl K H a vs) : SqL K H a vs := h.elim (fun h => .inl (.inr h)) .inr

/-- a tuple that was laid and has no dict -/
def KTd (K : Kw) (a : Addr) (vs : List V) : Prop := ∃ (o : Obj) (its : Array Value) (n : Nat), (K.1.lookup a = some o ∧ o.cls = .type "tuple" ∧ o.data = .seq its n ∧ its.size ≤ sizeLine ∧ Vals vs its.toList) ∧ o.dict = none ∧ o.slots = #[]
def Td (K : Kw) (H : Hp) (a : Addr) (vs : List V) : Prop := (∃ o, H a = some (.frz o (.tup vs)) ∧ o.dict = none ∧ o.slots = #[]) ∨ KTd K a vs
theorem Td.sq {K : Kw} {H : Hp} {a : Addr} {vs : List V} (h : Td K H a vs) : SqT K H a vs := h.elim (fun h => .inl (.inr (h.elim fun o e => ⟨o, e.1⟩))) fun ⟨o, its, n, h, _⟩ => .inr ⟨o, its, n, h⟩
mutual
inductive Rel (K : Kw) (H : Hp) : V → U → Prop
  | non : Rel K H .non .non
  | bl (b : Bool) : Rel K H (.bl b) (.bl b)
  | int (i : Int) : Rel K H (.int i) (.int i)
  | str (x : Str) : Rel K H (.str x) (.str x)
  | tup {a : Addr} {vs : List V} {us : List U} : Tp K H a vs → RelL K H vs us → Rel K H (.ref a) (.tup us)
  | rol {a : Addr} {vs : List V} {us : List U} : Rl K H a vs → RelL K H vs us → Rel K H (.ref a) (.rol us)
  | ref (a : Addr) : Rel K H (.ref a) (.ref a)
  | dtp {a : Addr} {vs : List V} {us : List U} : Td K H a vs → RelL K H vs us → Rel K H (.ref a) (.dtp us)
inductive RelL (K : Kw) (H : Hp) : List V → List U → Prop
  | nil : RelL K H [] []
  | cons {v : V} {vs : List V} {u : U} {us : List U} : Rel K H v u → RelL K H vs us → RelL K H (v :: vs) (u :: us)
end

theorem rl_ints0 {K : Kw} {H : Hp} : ∀ l : List Int, RelL K H (l.map V.int) (l.map U.int)
  | [] => RelL.nil
  | i :: l => RelL.cons (Rel.int i) (rl_ints0 l)
/-- what may change -/
inductive MO where
  | lst (us : List U)
  /-- z: walked at the moment; t: its keys are tuples -/
  | dct (z t : Bool) (ks : List (U × U))
  /-- its keys are tuples, within one another -/
  | dcn (ks : List (U × U))
  /-- an instance: its class's name, its attributes -/
  | obj (c : Str) (fs : List (Str × U))
abbrev Hm := Addr → Option MO
def um (M : Hm) (a : Addr) (o : MO) : Hm := fun b => if b = a then some o else M b
theorem um_same {M : Hm} {a : Addr} {o : MO} : um M a o a = some o := if_pos rfl
theorem um_ne {M : Hm} {a b : Addr} {o : MO} (h : b ≠ a) : um M a o b = M b := if_neg h
theorem um_um {M : Hm} {a : Addr} {o o' : MO} : um (um M a o) a o' = um M a o' := by
  funext b; unfold um; split <;> rfl
def keyU : Key → U
  | .inl i => .int i
  | .inr x => .str x
theorem keyU_inj {a b : Key} (e : keyU a = keyU b) : a = b := by
  cases a <;> cases b <;> first | (injection e with e; rw [e]) | cases e
theorem keysU_inj : ∀ {a b : List Key}, a.map keyU = b.map keyU → a = b
  | [], [], _ => rfl
  | [], _ :: _, e => by cases e
  | _ :: _, [], e => by cases e
  | x :: xs, y :: ys, e => by
    rw [List.map_cons, List.map_cons] at e
    injection e with e1 e2
    rw [keyU_inj e1, keysU_inj e2]

/-! ### keys within keys -/
mutual
def nk : U → PySem.NestedKey
  | .non => .none
  | .int i => .num i
  | .str x => .text x
  | .tup l => .tup (nkL l)
  | _ => .none
def nkL : List U → List PySem.NestedKey
  | [] => []
  | x :: xs => nk x :: nkL xs
end
/-- plain data of this depth, no truth values -/
def U.okN : Nat → U → Bool
  | _, .non => true
  | _, .int _ => true
  | _, .str _ => true
  | n + 1, .tup l => l.all (U.okN n)
  | _, _ => false
def isKeyN : U → Bool
  | .tup l => (U.tup l).okN 7
  | _ => false
abbrev NEnt := PySem.NestedKey × Addr × PySem.Value
def entN (w : PySem.World) (x : NEnt) : DictEntry := { hash := PySem.NestedKey.hash w x.1, key := .ref x.2.1, val := x.2.2 }
def dcnP (w : PySem.World) (a : Addr) (xs : List NEnt) : Heap → Prop := fun h => ∃ o es ep, h.get? a = some o ∧ o.ExactDict ∧ o.data = Data.dict es ep ∧ es.toList = xs.map (entN w) ∧ (xs.map (·.1)).Nodup
def RelN (K : Kw) (H : Hp) : List NEnt → List (U × U) → Prop := Paired fun q p => (isKeyN p.1 = true ∧ q.1 = nk p.1 ∧ Rel K H (.ref q.2.1) p.1) ∧ ∃ v, RelV v q.2.2 ∧ Rel K H v p.2
/-- two rows of entries -/
def RelK (K : Kw) (H : Hp) : List (Key × V) → List (U × U) → Prop := Paired fun p q => q.1 = keyU p.1 ∧ Rel K H p.2 q.2
def RelT (K : Kw) (H : Hp) : List (List Key × V) → List (U × U) → Prop := Paired fun p q => q.1 = .tup (p.1.map keyU) ∧ Rel K H p.2 q.2
def RelF (K : Kw) (H : Hp) : List (Str × V) → List (Str × U) → Prop := Paired fun p q => p.1 = q.1 ∧ Rel K H p.2 q.2
/-- where a class lies -/
def cad (K : Fg) (c : Str) : Addr := He.ga K c
def fz (z : Bool) (o : Option HO) (u : HO) : Prop := if z = true then ∃ ob, o = some (.frz ob u) else o = some u

def OR (K : Kw) (H : Hp) (a : Addr) : MO → Prop
  | .lst us => ∃ vs, H a = some (.lst vs) ∧ RelL K H vs us
  | .dct z false ks => ∃ kvs, fz z (H a) (.dK kvs) ∧ RelK K H kvs ks
  | .dct z true ks => ∃ kvs, fz z (H a) (.dT kvs) ∧ RelT K H kvs ks
  | .dcn ks => ∃ xs, H a = some (.ext (dcnP K.2 a xs)) ∧ RelN K H xs ks ∧ (a == sysModules) = false ∧ xs.length ≤ sizeLine
  | .obj c fs => ∃ dx vs, H a = some (.ins (cad K c) dx vs) ∧ RelF K H vs fs ∧ Cls K (cad K c) ∧ ∀ x ∈ vs, NoAttr K (cad K c) x.1
def Sim (K : Kw) (H : Hp) (M : Hm) : Prop := ∀ a o, M a = some o → OR K H a o
/-- what is not among M's things stays as it is; so does what is walked -/
structure Stp (H : Hp) (M : Hm) (H' : Hp) (M' : Hm) : Prop where
  keep : ∀ a o, H a = some o → M a = none → H' a = some o ∧ M' a = none
  lock : ∀ a t ks, M a = some (.dct true t ks) → H' a = H a ∧ (M' a = M a ∨ M' a = none)

theorem Stp.refl (H : Hp) (M : Hm) : Stp H M H M := ⟨fun _ _ h n => ⟨h, n⟩, fun _ _ _ _ => ⟨rfl, .inl rfl⟩⟩

theorem fz_some {z : Bool} {o : Option HO} {u : HO} (h : fz z o u) : ∃ x, o = some x := by
  unfold fz at h
  cases z with
  | true => obtain ⟨_, e⟩ := (show ∃ ob, o = some (.frz ob u) from h); exact ⟨_, e⟩
  | false => exact ⟨_, h⟩
theorem OR.has {K : Kw} {H : Hp} {a : Addr} {o : MO} (h : OR K H a o) : ∃ x, H a = some x := by
  cases o with
  | lst us => obtain ⟨vs, e, _⟩ := h; exact ⟨_, e⟩
  | dct z t ks =>
    cases t with
    | false => obtain ⟨kvs, e, _⟩ := h; exact fz_some e
    | true => obtain ⟨kvs, e, _⟩ := h; exact fz_some e
  | dcn ks => obtain ⟨xs, e, _⟩ := h; exact ⟨_, e⟩
  | obj c fs => obtain ⟨dx, vs, e, _⟩ := h; exact ⟨_, e⟩
theorem Stp.trans {K : Kw} {H H1 H2 : Hp} {M M1 M2 : Hm} (S : Sim K H M) (a : Stp H M H1 M1) (b : Stp H1 M1 H2 M2) : Stp H M H2 M2 :=
  ⟨fun x o h n => let ⟨h1, n1⟩ := a.keep x o h n; b.keep x o h1 n1, fun x t ks e => by
    obtain ⟨e1, e2⟩ := a.lock x t ks e
    rcases e2 with e2 | e2
    · obtain ⟨f1, f2⟩ := b.lock x t ks (by rw [e2]; exact e)
      exact ⟨f1.trans e1, by rw [← e2]; exact f2⟩
    · obtain ⟨o, ho⟩ := (S x _ e).has
      obtain ⟨f1, f2⟩ := b.keep x o (by rw [e1]; exact ho) e2
      exact ⟨by rw [f1, ho], .inr f2⟩⟩
theorem Sim.fr {K : Kw} {H : Hp} {M : Hm} (S : Sim K H M) {a : Addr} (h : H a = none) : M a = none := by
  cases e : M a with
  | none => rfl
  | some o =>
    obtain ⟨x, q⟩ := (S a o e).has
    rw [h] at q
    cases q
theorem fz_tup {z : Bool} {o : Option HO} {u : HO} {vs : List V} (h : fz z o u) (hu : ∀ xs, u ≠ .tup xs) : o ≠ some (.tup vs) := fun e => by
  unfold fz at h
  cases z with
  | true =>
    obtain ⟨_, q⟩ := (show ∃ ob, o = some (.frz ob u) from h)
    rw [e] at q
    cases q
  | false =>
    have q : o = some u := h
    rw [e] at q
    cases q
    exact hu _ rfl
theorem fz_rol {z : Bool} {o : Option HO} {u : HO} {ob : Obj} {vs : List V} (h : fz z o u) (hu : ∀ xs, u ≠ .lst xs) (hf : ∀ o' x, u ≠ .frz o' x) : o ≠ some (.frz ob (.lst vs)) := fun e => by
  unfold fz at h
  cases z with
  | true =>
    obtain ⟨_, q⟩ := (show ∃ ob, o = some (.frz ob u) from h)
    rw [e] at q
    cases q
    exact hu _ rfl
  | false =>
    have q : o = some u := h
    rw [e] at q
    cases q
    exact hf _ _ rfl
theorem Sim.noTup {K : Kw} {H : Hp} {M : Hm} (S : Sim K H M) {a : Addr} {vs : List V} (h : H a = some (.tup vs)) : M a = none := by
  cases e : M a with
  | none => rfl
  | some o =>
    have q := S a o e
    cases o with
    | lst us =>
      obtain ⟨_, e2, _⟩ := q
      rw [h] at e2
      cases e2
    | dct z t ks =>
      cases t with
      | false => obtain ⟨kvs, e2, _⟩ := q; exact absurd h (fz_tup e2 fun _ x => nomatch x)
      | true => obtain ⟨kvs, e2, _⟩ := q; exact absurd h (fz_tup e2 fun _ x => nomatch x)
    | dcn ks =>
      obtain ⟨_, e2, _⟩ := q
      rw [h] at e2
      cases e2
    | obj c fs =>
      obtain ⟨_, _, e2, _⟩ := q
      rw [h] at e2
      cases e2
theorem Sim.noRol {K : Kw} {H : Hp} {M : Hm} (S : Sim K H M) {a : Addr} {ob : Obj} {vs : List V} (h : H a = some (.frz ob (.lst vs))) : M a = none := by
  cases e : M a with
  | none => rfl
  | some o =>
    have q := S a o e
    cases o with
    | lst us =>
      obtain ⟨_, e2, _⟩ := q
      rw [h] at e2
      cases e2
    | dct z t ks =>
      cases t with
      | false => obtain ⟨kvs, e2, _⟩ := q; exact absurd h (fz_rol e2 (fun _ x => nomatch x) fun _ _ x => nomatch x)
      | true => obtain ⟨kvs, e2, _⟩ := q; exact absurd h (fz_rol e2 (fun _ x => nomatch x) fun _ _ x => nomatch x)
    | dcn ks =>
      obtain ⟨_, e2, _⟩ := q
      rw [h] at e2
      cases e2
    | obj c fs =>
      obtain ⟨_, _, e2, _⟩ := q
      rw [h] at e2
      cases e2
theorem fz_td {z : Bool} {o : Option HO} {u : HO} {ob : Obj} {vs : List V} (h : fz z o u) (hu : ∀ xs, u ≠ .tup xs) (hf : ∀ o' x, u ≠ .frz o' x) : o ≠ some (.frz ob (.tup vs)) := fun e => by
  unfold fz at h
  cases z with
  | true =>
    obtain ⟨_, q⟩ := (show ∃ ob, o = some (.frz ob u) from h)
    rw [e] at q
    cases q
    exact hu _ rfl
  | false =>
    have q : o = some u := h
    rw [e] at q
    cases q
    exact hf _ _ rfl
theorem Sim.noTd {K : Kw} {H : Hp} {M : Hm} (S : Sim K H M) {a : Addr} {ob : Obj} {vs : List V} (h : H a = some (.frz ob (.tup vs))) : M a = none := by
  cases e : M a with
  | none => rfl
  | some o =>
    have q := S a o e
    cases o with
    | lst us =>
      obtain ⟨_, e2, _⟩ := q
      rw [h] at e2
      cases e2
    | dct z t ks =>
      cases t with
      | false => obtain ⟨kvs, e2, _⟩ := q; exact absurd h (fz_td e2 (fun _ x => nomatch x) fun _ _ x => nomatch x)
      | true => obtain ⟨kvs, e2, _⟩ := q; exact absurd h (fz_td e2 (fun _ x => nomatch x) fun _ _ x => nomatch x)
    | dcn ks =>
      obtain ⟨_, e2, _⟩ := q
      rw [h] at e2
      cases e2
    | obj c fs =>
      obtain ⟨_, _, e2, _⟩ := q
      rw [h] at e2
      cases e2
theorem Td.stp {K : Kw} {H H' : Hp} {M M' : Hm} (S : Sim K H M) (t : Stp H M H' M') {a : Addr} {vs : List V} (h : Td K H a vs) : Td K H' a vs := by
  rcases h with ⟨o, h, d⟩ | h
  · exact .inl ⟨o, (t.keep a _ h (S.noTd h)).1, d⟩
  · exact .inr h
theorem Tp.stp {K : Kw} {H H' : Hp} {M M' : Hm} (S : Sim K H M) (t : Stp H M H' M') {a : Addr} {vs : List V} (h : Tp K H a vs) : Tp K H' a vs := by
  rcases h with h | h
  · exact .inl (t.keep a _ h (S.noTup h)).1
  · exact .inr h
theorem Rl.stp {K : Kw} {H H' : Hp} {M M' : Hm} (S : Sim K H M) (t : Stp H M H' M') {a : Addr} {vs : List V} (h : Rl K H a vs) : Rl K H' a vs := by
  rcases h with ⟨o, h⟩ | h
  · exact .inl ⟨o, (t.keep a _ h (S.noRol h)).1⟩
  · exact .inr h
mutual
theorem Rel.stp {K : Kw} {H H' : Hp} {M M' : Hm} (S : Sim K H M) (t : Stp H M H' M') {v : V} {u : U} (h : Rel K H v u) : Rel K H' v u := by
  cases h with
  | non => exact .non
  | bl b => exact .bl b
  | int i => exact .int i
  | str x => exact .str x
  | tup h1 h2 => exact .tup (h1.stp S t) (h2.stp S t)
  | rol h1 h2 => exact .rol (h1.stp S t) (h2.stp S t)
  | ref a => exact .ref a
  | dtp h1 h2 => exact .dtp (h1.stp S t) (h2.stp S t)
theorem RelL.stp {K : Kw} {H H' : Hp} {M M' : Hm} (S : Sim K H M) (t : Stp H M H' M') {v : List V} {u : List U} (h : RelL K H v u) : RelL K H' v u := by
  cases h with
  | nil => exact .nil
  | cons h1 h2 => exact .cons (h1.stp S t) (h2.stp S t)
end
end Pl

set_option maxHeartbeats 4000000
/-! the syntax and what it asks -/
namespace Pl
open PySem L2

inductive Bop where | add | sub | mul | fdiv | mod | pow | shl | shr | band | bor
  deriving DecidableEq
inductive Cop where | eq | ne | lt | le | gt | ge | isin | notin
  deriving DecidableEq
/-- built-in functions and classes that are called -/
inductive Bfn where | len | list | tuple | int | abs | max | min | sorted | sum | all | any | set | str | dict | bool | tupd
  deriving DecidableEq
/-- methods of built-in types -/
inductive Mfn where | append | extend | pop | popAt | split | get1 | get2 | setdefault | index | join | insert | remove | items | pop2 | isalpha | islower | replace
  deriving DecidableEq
/-- targets: one name, a flat tuple of names -/
inductive Tg where | one (i : Nat) | many (is : List Nat)
  deriving DecidableEq
def Tg.slots : Tg → List Nat
  | .one i => [i]
  | .many is => is

inductive E where
  | var (i : Nat) | int (i : Int) | str (x : Str) | bl (b : Bool) | non
  | nil | cons (a b : E)
  | tup (es : E) | lst (es : E) | dnew (t : Bool) | dnewN | dtup (es : E) | ddisp (es : E) | ddispN (a b : E)
  | bin (op : Bop) (a b : E) | neg (a : E)
  | cmp (op : Cop) (a b : E) | chain (o1 o2 : Cop) (a b c : E)
  | isN (a : E) | notN (a : E) | isB (neg b : Bool) (a : E)
  | ands (es : E) | ors (es : E) | not (a : E) | ite (c a b : E)
  | ix (a i : E) | dget (o k d : E) | dget1 (o k : E) | slice (a lo hi : E)
  | call (f : Nat) (es : E) | blt (f : Bfn) (es : E) | mth (m : Mfn) (o es : E) | isinst (a : E) (t : String)
  | comp (own : List (Str × Nat)) (tg : Tg) (it c elt : E) | dcompN (own : List (Str × Nat)) (tg : Tg) (it c k v : E)
  | fld (f : Str) (o : E) | meth (c m : Str) (f : Nat) (o es : E) | make (c : Str) (f : Nat) (es : E) | prop (c m : Str) (f : Nat) (o : E)
  | setdef (o k d : E) | lrng (t : Bool) (a b : E) | tidx (o e : E) | gint (x : Str) (i : Int) | gstr (x s : Str) | gtup (x : Str) (is : List Int) | gdat (x : Str) (u : U) | dgetN (o k d : E)
  | iSeq (a : E) | iRange (a : E) | iRange2 (a b : E) | iEnum (a : E) | iKeys (a : E) | iRev (a : E) | iZip (a b : E)
  deriving DecidableEq

inductive S where
  | skip | seq (a b : S)
  | asg (i : Nat) (e : E) | asgT (is : List Nat) (e : E) | asgU (is : List Nat) (e : E) | par (i j : Nat) (a b : E)
  | setF (c f : Str) (o e : E)
  | setIx (o i e : E) | delIx (o i : E) | augV (i : Nat) (op : Bop) (e : E) | augIx (o i : E) (op : Bop) (e : E)
  | ifs (c : E) (a b : S) | for_ (tg : Tg) (it : E) (b : S) | whl (c : E) (b : S)
  | ret (e : E) | retN | brk | cnt | expr (e : E) | nvr
  deriving DecidableEq

abbrev SU := List (Option U)
abbrev QU := U → Hm → Prop
abbrev WE := SU → Hm → QU → Prop
abbrev WT := SU → Hm → (Bool → Hm → Prop) → Prop
abbrev WL := SU → Hm → (List U → Hm → Prop) → Prop
abbrev WO := SU → Hm → (Option Int → Hm → Prop) → Prop
/-- what is walked: its items, what must stay, how an exit is reached -/
abbrev WI := SU → Hm → (List U → (Hm → Prop) → ((Hm → Prop) → Hm → Prop) → Hm → Prop) → Prop

def LIM : Nat := 100000

/-! ### data -/
def okS (x : Str) : Bool := x.cps.all (· < 0x110000)
def U.ok : Nat → U → Bool
  | _, .non => true
  | _, .int _ => true
  | _, .str x => okS x
  | n + 1, .tup l => l.all (U.ok n)
  | _, _ => false
def okU (x : U) : Bool := x.ok 60
def okL (l : List U) : Bool := l.all (U.ok 59)

def eqW (x y : U) (M : Hm) (Q : Bool → Hm → Prop) : Prop := match x, y with
  | .bl a, .bl b => Q (a == b) M
  | .int a, .int b => Q (decide (a = b)) M
  | .str a, .str b => Q (decide (a = b)) M
  | .ref p, .ref q => ∃ us ws, M p = some (.lst us) ∧ M q = some (.lst ws) ∧ okL us = true ∧ okL ws = true ∧ Q (decide (us = ws)) M
  | .tup a, .dtp b => okU (.tup a) = true ∧ okU (.tup b) = true ∧ Q (decide (a = b)) M
  | x, y => okU x = true ∧ okU y = true ∧ Q (decide (x = y)) M

def dfind (ks : List (U × U)) (k : U) : Option U := (ks.find? fun p => decide (p.1 = k)).map (·.2)
/-- one entry taken out -/
def ddrop (ks : List (U × U)) (k : U) : List (U × U) := ks.filter fun p => !decide (p.1 = k)
def dput (ks : List (U × U)) (k v : U) : List (U × U) := if (dfind ks k).isSome = true then ks.map fun p => if p.1 = k then (p.1, v) else p else ks ++ [(k, v)]
/-- a key of ints and texts | of tuples of such -/
def isKey : U → Bool
  | .int _ => true
  | .str _ => true
  | _ => false
/-- its first part is a text: so it is no tuple that the module holds -/
def isKeyT : U → Bool
  | .tup (.str _ :: l) => l.all isKey
  | _ => false
def keyFor (t : Bool) (k : U) : Bool := match t with
  | true => isKeyT k
  | false => isKey k

def inW (neg : Bool) (x y : U) (M : Hm) (Q : Bool → Hm → Prop) : Prop := match y with
  | .tup l => okU x = true ∧ okL l = true ∧ Q (if neg then !decide (x ∈ l) else decide (x ∈ l)) M
  | .dtp l => (l.all isKey = true ∧ isKey x = true) ∧ Q (if neg then !decide (x ∈ l) else decide (x ∈ l)) M
  | .ref p => (∃ us, M p = some (.lst us) ∧ okU x = true ∧ okL us = true ∧ Q (if neg then !decide (x ∈ us) else decide (x ∈ us)) M) ∨
      (∃ z t ks, M p = some (.dct z t ks) ∧ keyFor t x = true ∧ Q (if neg then !(dfind ks x).isSome else (dfind ks x).isSome) M) ∨
      ∃ ks, M p = some (.dcn ks) ∧ isKeyN x = true ∧ Q (if neg then !(dfind ks x).isSome else (dfind ks x).isSome) M
  | _ => False

def cmpW (op : Cop) (x y : U) (M : Hm) (Q : Bool → Hm → Prop) : Prop := match op with
  | .eq => eqW x y M Q
  | .ne => eqW x y M fun b M => Q (!b) M
  | .lt => (match x, y with | .int i, .int j => Q (decide (i < j)) M | _, _ => False)
  | .le => (match x, y with | .int i, .int j => Q (decide (i ≤ j)) M | _, _ => False)
  | .gt => (match x, y with | .int i, .int j => Q (decide (j < i)) M | _, _ => False)
  | .ge => (match x, y with | .int i, .int j => Q (decide (j ≤ i)) M | _, _ => False)
  | .isin => inW false x y M Q
  | .notin => inW true x y M Q

def binW (op : Bop) (x y : U) (M : Hm) (Q : QU) : Prop := match op, x, y with
  | .add, .int i, .int j => Q (.int (i + j)) M
  | .sub, .int i, .int j => Q (.int (i - j)) M
  | .mul, .int i, .int j => CMul i j ∧ Q (.int (i * j)) M
  | .fdiv, .int i, .int j => CDiv i j ∧ Q (.int (i / j)) M
  | .mod, .int i, .int j => 0 < j ∧ Q (.int (i % j)) M
  | .pow, .int i, .int j => CPow i j ∧ Q (.int (i ^ j.toNat)) M
  | .shl, .int i, .int j => CPow i j ∧ Q (.int (i * 2 ^ j.toNat)) M
  | .shr, .int i, .int j => 0 ≤ j ∧ Q (.int (i / 2 ^ j.toNat)) M
  | .band, .int i, .int j => Q (.int (Builtin.bitAnd i j)) M
  | .bor, .int i, .int j => Q (.int (Builtin.bitOr i j)) M
  | .add, .str a, .str b => a.length + b.length ≤ LIM ∧ Q (.str (a ++ b)) M
  | .add, .tup a, .tup b => a.length + b.length ≤ LIM ∧ Q (.tup (a ++ b)) M
  | .mul, .ref p, .int k => ∃ us, M p = some (.lst us) ∧ -LIM ≤ k ∧ k ≤ LIM ∧ us.length * k.toNat ≤ LIM ∧ ∀ a, M a = none → Q (.ref a) (um M a (.lst (List.replicate k.toNat us).flatten))
  | .add, .ref p, .ref q => ∃ us ws, M p = some (.lst us) ∧ M q = some (.lst ws) ∧ us.length + ws.length ≤ LIM ∧ ∀ a, M a = none → Q (.ref a) (um M a (.lst (us ++ ws)))
  | _, _, _ => False

def truW (x : U) (M : Hm) (Q : Bool → Hm → Prop) : Prop := match x with
  | .bl b => Q b M
  | .int i => Q (i != 0) M
  | .str s => s.length ≤ LIM ∧ Q (s.length != 0) M
  | .non => Q false M
  | .tup l => Q (!l.isEmpty) M
  | .ref p => (∃ us, M p = some (.lst us) ∧ Q (!us.isEmpty) M) ∨ ∃ ks, M p = some (.dct false false ks) ∧ Q (!ks.isEmpty) M
  | .rol _ => False
  | .dtp l => Q (!l.isEmpty) M

def ixW (x i : U) (M : Hm) (Q : QU) : Prop := match x with
  | .dtp l => ∃ j v, i = .int j ∧ atI l j = some v ∧ Q v M
  | .tup l => ∃ j v, i = .int j ∧ atI l j = some v ∧ Q v M
  | .ref p => (∃ us j v, M p = some (.lst us) ∧ i = .int j ∧ atI us j = some v ∧ Q v M) ∨ (∃ z t ks v, M p = some (.dct z t ks) ∧ keyFor t i = true ∧ dfind ks i = some v ∧ Q v M) ∨
      ∃ ks v, M p = some (.dcn ks) ∧ isKeyN i = true ∧ dfind ks i = some v ∧ Q v M
  | .str z => ∃ j c, i = .int j ∧ z.length ≤ LIM ∧ atI z.cps.toList j = some c ∧ Q (.str ⟨#[c]⟩) M
  | _ => False
/-- d.get(k, x) -/
def isDW (x : U) (M : Hm) : Prop := ∃ p z t ks, x = .ref p ∧ M p = some (.dct z t ks)
def dgetNW (x y v : U) (M : Hm) (Q : QU) : Prop := ∃ p ks, x = .ref p ∧ M p = some (.dcn ks) ∧ isKeyN y = true ∧ Q ((dfind ks y).getD v) M
def dgetW (x y v : U) (M : Hm) (Q : QU) : Prop := ∃ p z t ks, x = .ref p ∧ M p = some (.dct z t ks) ∧ keyFor t y = true ∧ Q ((dfind ks y).getD v) M
/-- d.setdefault(k, x) -/
def setdefW (x y v : U) (M : Hm) (Q : QU) : Prop := ∃ p ks, x = .ref p ∧ M p = some (.dct false false ks) ∧ isKey y = true ∧ ks.length < LIM ∧
  (match dfind ks y with
  | some u => Q u M
  | none => Q v (um M p (.dct false false (dput ks y v))))
/-- t.index(x) of a tuple of texts -/
def tidxW (x y : U) (M : Hm) (Q : QU) : Prop := ∃ (ys : List Str) (z : Str) (j : Nat), x = .dtp (ys.map U.str) ∧ y = .str z ∧ ys[j]? = some z ∧ (∀ m, m < j → ys[m]? ≠ some z) ∧ Q (.int (j : Nat)) M
/-- a field set -/
def fput (f : Str) (v : U) : List (Str × U) → List (Str × U)
  | [] => [(f, v)]
  | (g, x) :: r => if g = f then (g, v) :: r else (g, x) :: fput f v r
/-- what an augmented store reads -/
def getW (x i : U) (M : Hm) (Q : QU) : Prop := match x with
  | .ref p => (∃ us j v, M p = some (.lst us) ∧ i = .int j ∧ atI us j = some v ∧ Q v M) ∨ ∃ z t ks v, M p = some (.dct z t ks) ∧ keyFor t i = true ∧ dfind ks i = some v ∧ Q v M
  | _ => False
def cutU {α : Type} (xs : List α) (lo hi : Option Int) : List α := (xs.drop (HT.sIx xs.length 0 lo)).take (HT.sIx xs.length xs.length hi - HT.sIx xs.length 0 lo)
def sliceW (x : U) (lo hi : Option Int) (M : Hm) (Q : QU) : Prop := match x with
  | .tup l => Q (.tup (cutU l lo hi)) M
  | .ref p => ∃ us, M p = some (.lst us) ∧ ∀ a, M a = none → Q (.ref a) (um M a (.lst (cutU us lo hi)))
  | _ => False
def setW (x i v : U) (M : Hm) (Q : Hm → Prop) : Prop := match x with
  | .ref p => (∃ us j k, M p = some (.lst us) ∧ i = .int j ∧ ixN us.length j = some k ∧ Q (um M p (.lst (us.set k v)))) ∨
      (∃ t ks, M p = some (.dct false t ks) ∧ keyFor t i = true ∧ ks.length < LIM ∧ Q (um M p (.dct false t (dput ks i v)))) ∨
      ∃ ks, M p = some (.dcn ks) ∧ isKeyN i = true ∧ ks.length < LIM ∧ Q (um M p (.dcn (dput ks i v)))
  | _ => False

mutual
def pd : U → PyData
  | .non => .none
  | .bl b => .bool b
  | .int i => .int i
  | .str x => .str x
  | .tup l => .tuple (pdL l)
  | .ref _ => .none
  | .rol _ => .none
  | .dtp _ => .none
def pdL : List U → List PyData
  | [] => []
  | x :: xs => pd x :: pdL xs
end
theorem pdL_map : ∀ l : List U, pdL l = l.map pd
  | [] => rfl
  | x :: xs => by rw [pdL, pdL_map xs]; rfl
/-- what can be put in order -/
def sortOk (us : List U) : Prop := okL us = true ∧ W.AllAlike (us.map pd) ∧ W.Sortable (us.map pd) ∧ us.length ≤ LIM
def sortU (us : List U) : List U := us.mergeSort (W.dataLe false pd)
def bltW (f : Bfn) (xs : List U) (M : Hm) (Q : QU) : Prop := match f, xs with
  | .len, [.tup l] => Q (.int l.length) M
  | .len, [.str s] => s.length ≤ LIM ∧ Q (.int s.length) M
  | .len, [.ref p] => (∃ us, M p = some (.lst us) ∧ Q (.int us.length) M) ∨ ∃ ks, M p = some (.dct false false ks) ∧ Q (.int ks.length) M
  | .list, [.tup l] => ∀ a, M a = none → Q (.ref a) (um M a (.lst l))
  | .list, [.ref p] => (∃ us, M p = some (.lst us) ∧ ∀ a, M a = none → Q (.ref a) (um M a (.lst us))) ∨
      (∃ ks, M p = some (.dct false false ks) ∧ ∀ a, M a = none → Q (.ref a) (um M a (.lst (ks.map (·.1))))) ∨
      ∃ ks, M p = some (.dcn ks) ∧ ∀ a, M a = none → Q (.ref a) (um M a (.lst (ks.map (·.1))))
  | .tuple, [.tup l] => Q (.tup l) M
  | .tupd, [.ref p] => ∃ us, M p = some (.lst us) ∧ Q (.dtp us) M
  | .dict, [.ref p] => ∃ ks, M p = some (.dct false false ks) ∧ ∀ a, M a = none → Q (.ref a) (um M a (.dct false false ks))
  | .len, [.dtp l] => Q (.int l.length) M
  | .list, [.dtp l] => ∀ a, M a = none → Q (.ref a) (um M a (.lst l))
  | .tuple, [.dtp l] => Q (.dtp l) M
  | .tuple, [.ref p] => ∃ us, M p = some (.lst us) ∧ Q (.tup us) M
  | .int, [.int i] => Q (.int i) M
  | .int, [.bl b] => Q (.int (if b then 1 else 0)) M
  | .abs, [.int i] => Q (.int (if i < 0 then -i else i)) M
  | .max, [.int i, .int j] => Q (.int (if j > i then j else i)) M
  | .sorted, [.ref p] => (∃ us, M p = some (.lst us) ∧ sortOk us ∧ ∀ a, M a = none → Q (.ref a) (um M a (.lst (sortU us)))) ∨ (∃ t ks, M p = some (.dct false t ks) ∧ sortOk (ks.map (·.1)) ∧ ∀ a, M a = none → Q (.ref a) (um M a (.lst (sortU (ks.map (·.1)))))) ∨ ∃ ks, M p = some (.dcn ks) ∧ sortOk (ks.map (·.1)) ∧ ∀ a, M a = none → Q (.ref a) (um M a (.lst (sortU (ks.map (·.1)))))
  | .sum, [.ref p] => ∃ ns : List Int, M p = some (.lst (ns.map U.int)) ∧ Q (.int ns.sum) M
  | .all, [.ref p] => ∃ bs : List Bool, M p = some (.lst (bs.map U.bl)) ∧ Q (.bl (bs.all id)) M
  | .any, [.ref p] => ∃ bs : List Bool, M p = some (.lst (bs.map U.bl)) ∧ Q (.bl (bs.any id)) M
  | .max, [.ref p] => ∃ (ns : List Int), M p = some (.lst (ns.map U.int)) ∧ 0 < ns.length ∧ ∀ m, m ∈ ns → (∀ y, y ∈ ns → y ≤ m) → Q (.int m) M
  | .min, [.int i, .int j] => Q (.int (if j < i then j else i)) M
  | .min, [.ref p] => ∃ (ns : List Int), M p = some (.lst (ns.map U.int)) ∧ 0 < ns.length ∧ ∀ m, m ∈ ns → (∀ y, y ∈ ns → m ≤ y) → Q (.int m) M
  | _, _ => False

def mthW (m : Mfn) (o : U) (xs : List U) (M : Hm) (Q : QU) : Prop := match m, o, xs with
  | .append, .ref p, [x] => ∃ us, M p = some (.lst us) ∧ us.length < LIM ∧ Q .non (um M p (.lst (us ++ [x])))
  | .extend, .ref p, [.ref q] => ∃ us ws, M p = some (.lst us) ∧ M q = some (.lst ws) ∧ us.length + ws.length ≤ LIM ∧ Q .non (um M p (.lst (us ++ ws)))
  | .extend, .ref p, [.dtp l] => ∃ us, M p = some (.lst us) ∧ us.length + l.length ≤ LIM ∧ Q .non (um M p (.lst (us ++ l)))
  | .pop2, .ref p, [.tup l] => ∃ ks v, M p = some (.dct false true ks) ∧ isKeyT (.tup l) = true ∧ dfind ks (.tup l) = some v ∧ Q v (um M p (.dct false true (ddrop ks (.tup l))))
  | .pop2, .ref p, [.tup l, d] => ∃ ks, M p = some (.dct false true ks) ∧ isKeyT (.tup l) = true ∧ (match dfind ks (.tup l) with | some v => Q v (um M p (.dct false true (ddrop ks (.tup l)))) | none => Q d M)
  | .pop, .ref p, [] => ∃ us x, M p = some (.lst us) ∧ us[us.length - 1]? = some x ∧ Q x (um M p (.lst us.dropLast))
  | .popAt, .ref p, [.int i] => ∃ us k x, M p = some (.lst us) ∧ us.length ≤ LIM ∧ ixN us.length i = some k ∧ us[k]? = some x ∧ Q x (um M p (.lst (us.eraseIdx k)))
  | .index, .ref p, [x] => ∃ us j, M p = some (.lst us) ∧ okU x = true ∧ okL us = true ∧ us[j]? = some x ∧ (∀ m, m < j → us[m]? ≠ some x) ∧ Q (.int (j : Nat)) M
  | .split, .str a, [.str b] => (b.length == 0) = false ∧ a.length + 2 ≤ LIM ∧ ∀ p, M p = none → Q (.ref p) (um M p (.lst ((Txt.split a b).map U.str)))
  | _, _, _ => False
/-- the receiver is of the method's type -/
def rcvW (m : Mfn) (x : U) (M : Hm) : Prop := match m with
  | .append | .extend | .pop | .popAt | .index => ∃ p us, x = .ref p ∧ M p = some (.lst us)
  | .split => ∃ s, x = .str s
  | .pop2 => ∃ p ks, x = .ref p ∧ M p = some (.dct false true ks)
  | _ => False
def isTyW (x : U) (t : String) (M : Hm) (Q : Bool → Hm → Prop) : Prop := match x with
  | .non => Q (t == "NoneType") M
  | .bl _ => Q (t == "bool" || t == "int") M
  | .int _ => Q (t == "int") M
  | .str _ => Q (t == "str") M
  | .tup _ => Q (t == "tuple") M
  | .dtp _ => Q (t == "tuple") M
  | .ref p => ∃ us, M p = some (.lst us) ∧ Q (t == "list") M
  | .rol _ => False

/-! ### loops -/
/-- the slots of these forgotten -/
def wipU (σ : SU) : List Nat → SU
  | [] => σ
  | v :: vs => (wipU σ vs).set v none
def setAll : List Nat → List U → SU → Option SU
  | [], [], σ => some σ
  | i :: is, u :: us, σ => setAll is us (σ.set i (some u))
  | _, _, _ => none
def tgW (tg : Tg) (x : U) (σ : SU) (Q : SU → Prop) : Prop := match tg with
  | .one i => Q (σ.set i (some x))
  | .many is => ∃ l σ', x = .tup l ∧ setAll is l σ = some σ' ∧ Q σ'
def forL (step : U → (SU → Hm → Prop) → SU → Hm → Prop) (g : Hm → Prop) (fin : SU → Hm → Prop) : List U → SU → Hm → Prop
  | [], σ, M => fin σ M
  | x :: xs, σ, M => step x (fun σ' M' => g M' ∧ forL step g fin xs σ' M') σ M
def compL (step : U → (Option U → Hm → Prop) → Hm → Prop) (g : Hm → Prop) (fin : List U → Hm → Prop) : List U → List U → Hm → Prop
  | [], acc, M => fin acc M
  | x :: xs, acc, M => step x (fun o M' => g M' ∧ (o.isSome = true → acc.length < LIM) ∧ compL step g fin xs (acc ++ o.toList) M') M

/-! ### expressions -/
structure Wp where
  e : WE
  t : WT
  l : WL
  /-- a row of conditions: the tests by and, by or; the values by and, by or -/
  ta : WT
  to : WT
  va : WE
  vo : WE
  i : WI
def fE : WE := fun _ _ _ => False
def fT : WT := fun _ _ _ => False
def fI : WI := fun _ _ _ => False
/-- an expression whose test is its value's truth -/
def Wp.ofE (f : WE) : Wp := ⟨f, fun σ M Q => f σ M fun x M1 => truW x M1 Q, fun _ _ _ => False, fT, fT, fE, fE, fI⟩
/-- a comparison and its like: the value a bool -/
def Wp.ofB (f : WT) : Wp := ⟨fun σ M Q => f σ M fun b M1 => Q (.bl b) M1, f, fun _ _ _ => False, fT, fT, fE, fE, fI⟩
/-- never a test -/
def Wp.noT (f : WE) : Wp := ⟨f, fT, fun _ _ _ => False, fT, fT, fE, fE, fI⟩
def Wp.ofI (f : WI) : Wp := ⟨fE, fT, fun _ _ _ => False, fT, fT, fE, fE, f⟩
def bW (f : WE) (σ : SU) (M : Hm) (Q : Bool → Hm → Prop) : Prop := f σ M fun x M1 => ∃ b, x = .bl b ∧ Q b M1
def isNil : E → Bool
  | .nil => true
  | _ => false
def partW (e : E) (f : WE) : WO := fun σ M Q => if isNil e = true then Q none M else f σ M fun x M1 => ∃ i, x = .int i ∧ Q (some i) M1

/-- how the callees keep their promises -/
abbrev CE := Nat → List U → Hm → QU → Prop

def seqI (x : U) (M : Hm) (Q : List U → (Hm → Prop) → ((Hm → Prop) → Hm → Prop) → Hm → Prop) : Prop := match x with
  | .tup l => Q l (fun _ => True) (fun P => P) M
  | .rol l => Q l (fun _ => True) (fun P => P) M
  | .dtp l => Q l (fun _ => True) (fun P => P) M
  | .ref p => ∃ us, M p = some (.lst us) ∧ Q us (fun M' => M' p = some (.lst us)) (fun P => P) M
  | _ => False
def revI (x : U) (M : Hm) (Q : List U → (Hm → Prop) → ((Hm → Prop) → Hm → Prop) → Hm → Prop) : Prop := match x with
  | .tup l => Q l.reverse (fun _ => True) (fun P => P) M
  | .dtp l => Q l.reverse (fun _ => True) (fun P => P) M
  | .ref p => ∃ us, M p = some (.lst us) ∧ Q us.reverse (fun M' => M' p = some (.lst us)) (fun P => P) M
  | _ => False
def enumU (l : List U) : List U := l.zipIdx.map fun p => .tup [.int (p.2 : Nat), p.1]
def zipU (l r : List U) : List U := (l.zip r).map fun p => .tup [p.1, p.2]
/-- the items of a tuple -/
def tupOf : U → Option (List U)
  | .tup l => some l
  | .dtp l => some l
  | _ => none
/-- zip of two lists, of two tuples -/
def zipI (x y : U) (M : Hm) (Q : List U → (Hm → Prop) → ((Hm → Prop) → Hm → Prop) → Hm → Prop) : Prop :=
  (∃ l r, tupOf x = some l ∧ tupOf y = some r ∧ Q (zipU l r) (fun _ => True) (fun P => P) M) ∨
  ∃ p q us ws, x = .ref p ∧ y = .ref q ∧ M p = some (.lst us) ∧ M q = some (.lst ws) ∧ Q (zipU us ws) (fun M' => M' p = some (.lst us) ∧ M' q = some (.lst ws)) (fun P => P) M
def rngU (a b : Int) : List U := (List.range (b - a).toNat).map fun i => .int (a + (i : Nat))

/-- a comprehension over what is walked -/
def compW (fi : WI) (tg : Tg) (fc : WT) (fe : WE) : WE := fun σ M Q => fi σ M fun items g ex M1 =>
  compL (fun x k M => tgW tg x (wipU σ tg.slots) fun σ2 => fc σ2 M fun b M2 => if b = true then fe σ2 M2 fun y M3 => k (some y) M3 else k none M2)
    g (fun acc M => ex (fun M => ∀ p, M p = none → Q (.ref p) (um M p (.lst acc))) M) items [] M1

/-- a dict display -/
def flatU (kvs : List (Key × U)) : List U := kvs.flatMap fun p => [keyU p.1, p.2]
def dputs (kvs : List (Key × U)) (acc : List (U × U)) : List (U × U) := kvs.foldl (fun acc kv => dput acc (keyU kv.1) kv.2) acc
def ddispNW (f g : WE) : WE := fun σ M Q => ∀ p, M p = none → f σ (um M p (.dcn [])) fun k M1 => g σ M1 fun u M2 => M2 p = some (.dcn []) ∧ isKeyN k = true ∧ Q (.ref p) (um M2 p (.dcn [(k, u)]))
def ddispW (f : WL) : WE := fun σ M Q => ∀ p, M p = none → f σ (um M p (.dct false false [])) fun us M2 => M2 p = some (.dct false false []) ∧ ∃ kvs : List (Key × U), us = flatU kvs ∧ kvs.length ≤ 15 ∧ Q (.ref p) (um M2 p (.dct false false (dputs kvs [])))
/-- a dict of what is walked, its keys nested -/
def dcompL (step : U → (Hm → Prop) → Hm → Prop) (g : Hm → Prop) (fin : Hm → Prop) : List U → Hm → Prop
  | [], M => fin M
  | x :: xs, M => step x (fun M' => g M' ∧ dcompL step g fin xs M') M
def dsetN (p : Addr) (y z : U) (M : Hm) (k : Hm → Prop) : Prop := ∃ ks, M p = some (.dcn ks) ∧ isKeyN y = true ∧ ks.length < LIM ∧ k (um M p (.dcn (dput ks y z)))
abbrev dstepW (tg : Tg) (fc : WT) (fk fv : WE) (σ : SU) (p : Addr) : U → (Hm → Prop) → Hm → Prop := fun x k M => tgW tg x (wipU σ tg.slots) fun σ2 => fc σ2 M fun b M2 => if b = true then fk σ2 M2 fun y M3 => fv σ2 M3 fun z M4 => dsetN p y z M4 k else k M2
def dcompW (fi : WI) (tg : Tg) (fc : WT) (fk fv : WE) : WE := fun σ M Q => fi σ M fun items g ex M1 => ∀ p, M1 p = none → g (um M1 p (.dcn [])) ∧ dcompL (dstepW tg fc fk fv σ p) g (fun M => ex (fun M => Q (.ref p) M) M) items (um M1 p (.dcn []))

def w (C : CE) : E → Wp
  | .var i => .ofE fun σ M Q => ∃ u, σ[i]? = some (some u) ∧ Q u M
  | .int i => .ofE fun _ M Q => Q (.int i) M
  | .str x => .ofE fun _ M Q => Q (.str x) M
  | .bl b => .ofE fun _ M Q => Q (.bl b) M
  | .non => .ofE fun _ M Q => Q .non M
  | .nil => ⟨fE, fT, fun _ M Q => Q [] M, fun _ M Q => Q true M, fun _ M Q => Q false M, fE, fE, fI⟩
  | .cons a b => ⟨fE, fT, fun σ M Q => (w C a).e σ M fun x M1 => (w C b).l σ M1 fun xs M2 => Q (x :: xs) M2,
      if isNil b = true then (w C a).t else fun σ M Q => (w C a).t σ M fun c M1 => if c = true then (w C b).ta σ M1 Q else Q false M1,
      if isNil b = true then (w C a).t else fun σ M Q => (w C a).t σ M fun c M1 => if c = true then Q true M1 else (w C b).to σ M1 Q,
      if isNil b = true then (w C a).e else fun σ M Q => bW (w C a).e σ M fun c M1 => if c = true then (w C b).va σ M1 Q else Q (.bl false) M1,
      if isNil b = true then (w C a).e else fun σ M Q => bW (w C a).e σ M fun c M1 => if c = true then Q (.bl true) M1 else (w C b).vo σ M1 Q, fI⟩
  | .tup es => .ofE fun σ M Q => (w C es).l σ M fun xs M1 => xs.length ≤ LIM ∧ Q (.tup xs) M1
  | .dtup es => .ofE fun σ M Q => (w C es).l σ M fun xs M1 => xs.length ≤ LIM ∧ Q (.dtp xs) M1
  | .lst es => .ofE fun σ M Q => (w C es).l σ M fun xs M1 => xs.length ≤ LIM ∧ ∀ p, M1 p = none → Q (.ref p) (um M1 p (.lst xs))
  | .ddisp es => .ofE (ddispW (w C es).l)
  | .ddispN a b => .ofE (ddispNW (w C a).e (w C b).e)
  | .dnewN => .ofE fun _ M Q => ∀ p, M p = none → Q (.ref p) (um M p (.dcn []))
  | .dnew t => .ofE fun _ M Q => ∀ p, M p = none → Q (.ref p) (um M p (.dct false t []))
  | .bin op a b => .ofE fun σ M Q => (w C a).e σ M fun x M1 => (w C b).e σ M1 fun y M2 => binW op x y M2 Q
  | .neg a => .ofE fun σ M Q => (w C a).e σ M fun x M1 => ∃ i, x = .int i ∧ Q (.int (-i)) M1
  | .cmp op a b => .ofB fun σ M Q => (w C a).e σ M fun x M1 => (w C b).e σ M1 fun y M2 => cmpW op x y M2 Q
  | .chain o1 o2 a b c => .ofB fun σ M Q => (w C a).e σ M fun x M1 => (w C b).e σ M1 fun y M2 => cmpW o1 x y M2 fun k M3 =>
      if k = true then (w C c).e σ M3 fun z M4 => cmpW o2 y z M4 Q else Q false M3
  | .isN a => .ofB fun σ M Q => (w C a).e σ M fun x M1 => Q (decide (x = .non)) M1
  | .notN a => .ofB fun σ M Q => (w C a).e σ M fun x M1 => Q (!decide (x = .non)) M1
  | .isB neg b a => .ofB fun σ M Q => (w C a).e σ M fun x M1 => ∃ c, x = .bl c ∧ Q (if neg then !decide (c = b) else decide (c = b)) M1
  | .ands es => ⟨(w C es).va, (w C es).ta, fun _ _ _ => False, fT, fT, fE, fE, fI⟩
  | .ors es => ⟨(w C es).vo, (w C es).to, fun _ _ _ => False, fT, fT, fE, fE, fI⟩
  | .not a => ⟨fun σ M Q => (w C a).e σ M fun x M1 => truW x M1 fun b M2 => Q (.bl (!b)) M2, fun σ M Q => (w C a).t σ M fun b M1 => Q (!b) M1, fun _ _ _ => False, fT, fT, fE, fE, fI⟩
  | .ite c a b => .noT fun σ M Q => (w C c).t σ M fun k M1 => if k = true then (w C a).e σ M1 Q else (w C b).e σ M1 Q
  | .ix a i => .ofE fun σ M Q => (w C a).e σ M fun x M1 => (w C i).e σ M1 fun y M2 => ixW x y M2 Q
  | .dget o k d => .ofE fun σ M Q => (w C o).e σ M fun x M1 => isDW x M1 ∧ (w C k).e σ M1 fun y M2 => (w C d).e σ M2 fun v M3 => dgetW x y v M3 Q
  | .dget1 o k => .ofE fun σ M Q => (w C o).e σ M fun x M1 => isDW x M1 ∧ (w C k).e σ M1 fun y M2 => dgetW x y .non M2 Q
  | .slice a lo hi => .ofE fun σ M Q => (w C a).e σ M fun x M1 => partW lo (w C lo).e σ M1 fun l M2 => partW hi (w C hi).e σ M2 fun h M3 => sliceW x l h M3 Q
  | .call f es => .ofE fun σ M Q => (w C es).l σ M fun xs M1 => C f xs M1 Q
  | .blt f es => .ofE fun σ M Q => (w C es).l σ M fun xs M1 => bltW f xs M1 Q
  | .mth m o es => .ofE fun σ M Q => (w C o).e σ M fun x M1 => rcvW m x M1 ∧ (w C es).l σ M1 fun xs M2 => mthW m x xs M2 Q
  | .isinst a t => .ofB fun σ M Q => (w C a).e σ M fun x M1 => isTyW x t M1 Q
  | .comp _ tg it c elt => .ofE (compW (w C it).i tg (if isNil c = true then fun _ M Q => Q true M else (w C c).t) (w C elt).e)
  | .dcompN _ tg it c k v => .ofE (dcompW (w C it).i tg (if isNil c = true then fun _ M Q => Q true M else (w C c).t) (w C k).e (w C v).e)
  | .fld f o => .ofE fun σ M Q => (w C o).e σ M fun x M1 => ∃ p c fs v, x = .ref p ∧ M1 p = some (.obj c fs) ∧ fs.lookup f = some v ∧ Q v M1
  | .meth c m f o es => .ofE fun σ M Q => (w C o).e σ M fun x M1 => (∃ p fs, x = .ref p ∧ M1 p = some (.obj c fs) ∧ fs.lookup m = none) ∧ (w C es).l σ M1 fun xs M2 => C f (x :: xs) M2 Q
  | .make c f es => .ofE fun σ M Q => (w C es).l σ M fun xs M1 => ∀ p, M1 p = none → C f (.ref p :: xs) (um M1 p (.obj c [])) fun u M2 => u = .non ∧ Q (.ref p) M2
  | .prop c _ f o => .ofE fun σ M Q => (w C o).e σ M fun x M1 => (∃ p fs, x = .ref p ∧ M1 p = some (.obj c fs)) ∧ C f [x] M1 Q
  | .setdef o k d => .ofE fun σ M Q => (w C o).e σ M fun x M1 => isDW x M1 ∧ (w C k).e σ M1 fun y M2 => (w C d).e σ M2 fun v M3 => setdefW x y v M3 Q
  | .lrng t a b => .ofE fun σ M Q => partW a (w C a).e σ M fun lo M1 => (w C b).e σ M1 fun y M2 => ∃ n, y = .int n ∧ n ≤ LIM ∧ -LIM ≤ n ∧ lo.getD 0 ≤ LIM ∧ -LIM ≤ lo.getD 0 ∧
      if t = true then Q (.tup (rngU (lo.getD 0) n)) M2 else ∀ p, M2 p = none → Q (.ref p) (um M2 p (.lst (rngU (lo.getD 0) n)))
  | .tidx o e => .ofE fun σ M Q => (w C o).e σ M fun x M1 => (∃ l, x = .dtp l) ∧ (w C e).e σ M1 fun y M2 => tidxW x y M2 Q
  | .gint _ i => .ofE fun _ M Q => Q (.int i) M
  | .gstr _ s => .ofE fun _ M Q => Q (.str s) M
  | .gtup _ is => .ofE fun _ M Q => Q (.tup (is.map U.int)) M
  | .gdat _ u => .ofE fun _ M Q => Q u M
  | .dgetN o k d => .ofE fun σ M Q => (w C o).e σ M fun x M1 => (∃ p ks, x = .ref p ∧ M1 p = some (.dcn ks)) ∧ (w C k).e σ M1 fun y M2 => (w C d).e σ M2 fun v M3 => dgetNW x y v M3 Q
  | .iSeq a => .ofI fun σ M Q => (w C a).e σ M fun x M1 => seqI x M1 Q
  | .iRange a => .ofI fun σ M Q => (w C a).e σ M fun x M1 => ∃ n, x = .int n ∧ n ≤ LIM ∧ -LIM ≤ n ∧ Q (rngU 0 n) (fun _ => True) (fun P => P) M1
  | .iRange2 a b => .ofI fun σ M Q => (w C a).e σ M fun x M1 => (w C b).e σ M1 fun y M2 => ∃ m n, x = .int m ∧ y = .int n ∧ -LIM ≤ m ∧ m ≤ LIM ∧ n ≤ LIM ∧ -LIM ≤ n ∧ Q (rngU m n) (fun _ => True) (fun P => P) M2
  | .iRev a => .ofI fun σ M Q => (w C a).e σ M fun x M1 => revI x M1 Q
  | .iEnum a => .ofI fun σ M Q => (w C a).e σ M fun x M1 => seqI x M1 fun us g ex M2 => Q (enumU us) g ex M2
  | .iZip a b => .ofI fun σ M Q => (w C a).e σ M fun x M1 => (w C b).e σ M1 fun y M2 => zipI x y M2 Q
  | .iKeys a => .ofI fun σ M Q => ∃ i d t ks, a = .var i ∧ σ[i]? = some (some (.ref d)) ∧ M d = some (.dct false t ks) ∧
      Q (ks.map (·.1)) (fun M' => M' d = some (.dct true t ks)) (fun P M' => M' d = some (.dct true t ks) ∧ P (um M' d (.dct false t ks))) (um M d (.dct true t ks))

/-! ### statements -/
structure EndsU where
  nx : SU → Hm → Prop
  rt : QU
  bk : SU → Hm → Prop := fun _ _ => False
  ct : SU → Hm → Prop := fun _ _ => False

def wS (C : CE) : S → EndsU → SU → Hm → Prop
  | .skip, D, σ, M => D.nx σ M
  | .seq a b, D, σ, M => wS C a { D with nx := wS C b D } σ M
  | .asg i e, D, σ, M => (w C e).e σ M fun x M1 => D.nx (σ.set i (some x)) M1
  | .asgT is e, D, σ, M => (w C e).e σ M fun x M1 => ∃ l σ', x = .tup l ∧ setAll is l σ = some σ' ∧ D.nx σ' M1
  | .asgU is e, D, σ, M => (w C e).e σ M fun x M1 => ∃ p l σ', x = .ref p ∧ M1 p = some (.lst l) ∧ setAll is l σ = some σ' ∧ D.nx σ' M1
  | .par i j a b, D, σ, M => (w C a).e σ M fun x M1 => (w C b).e σ M1 fun y M2 => D.nx ((σ.set i (some x)).set j (some y)) M2
  | .setF c f o e, D, σ, M => (w C e).e σ M fun v M1 => (w C o).e σ M1 fun x M2 => ∃ p fs, x = .ref p ∧ M2 p = some (.obj c fs) ∧ fs.length < 1000 ∧ D.nx σ (um M2 p (.obj c (fput f v fs)))
  | .setIx o i e, D, σ, M => (w C e).e σ M fun v M1 => (w C o).e σ M1 fun x M2 => (w C i).e σ M2 fun y M3 => setW x y v M3 (D.nx σ)
  | .delIx o i, D, σ, M => (w C o).e σ M fun x M1 => (w C i).e σ M1 fun y M2 => ∃ p ks, x = .ref p ∧ M2 p = some (.dct false false ks) ∧ isKey y = true ∧ (dfind ks y).isSome = true ∧ D.nx σ (um M2 p (.dct false false (ddrop ks y)))
  | .augV i op e, D, σ, M => ∃ x, σ[i]? = some (some x) ∧ (w C e).e σ M fun y M1 => ∃ a b, x = .int a ∧ y = .int b ∧ binW op x y M1 fun z M2 => D.nx (σ.set i (some z)) M2
  | .augIx o i op e, D, σ, M => (w C o).e σ M fun x M1 => (w C i).e σ M1 fun y M2 => getW x y M2 fun v M3 => (w C e).e σ M3 fun z M4 => ∃ a b, v = .int a ∧ z = .int b ∧ binW op v z M4 fun r M5 => setW x y r M5 (D.nx σ)
  | .ifs c a b, D, σ, M => (w C c).t σ M fun k M1 => if k = true then wS C a D σ M1 else wS C b D σ M1
  | .for_ tg it b, D, σ, M => (w C it).i σ M fun items g ex M1 =>
      forL (fun x nx σ M => tgW tg x σ fun σ2 => wS C b ⟨nx, fun u M => ex (D.rt u) M, fun σ M => ex (D.nx σ) M, nx⟩ σ2 M) g (fun σ M => ex (D.nx σ) M) items σ M1
  | .whl c b, D, σ, M => ∃ W : Nat → SU → Hm → Prop, (∃ m, W m σ M) ∧ ∀ m σ M, W m σ M → (w C c).t σ M fun k M1 =>
      if k = true then wS C b ⟨fun σ' M' => ∃ m', m' < m ∧ W m' σ' M', D.rt, D.nx, fun σ' M' => ∃ m', m' < m ∧ W m' σ' M'⟩ σ M1 else D.nx σ M1
  | .ret e, D, σ, M => (w C e).e σ M D.rt
  | .retN, D, _, M => D.rt .non M
  | .brk, D, σ, M => D.bk σ M
  | .cnt, D, σ, M => D.ct σ M
  | .expr e, D, σ, M => (w C e).e σ M fun _ M1 => D.nx σ M1
  | .nvr, _, _, _ => False

/-- one def: its name, its parameters, all its names by slot, its body; a method's: its class, its name in full, whether it is a property's -/
structure Df where
  name : Str
  ps : List Str
  N : List Str
  b : S
  cls : Option Str := none
  qual : Str := name
  prp : Bool := false
/-- one class: its name, its __init__, its fields, its methods, its properties -/
structure Cd where
  name : Str
  init : Option Nat
  flds : List Str
  mets : List (Str × Nat)
  prps : List (Str × Nat)
def startU (n : Nat) (us : List U) : SU := us.map some ++ List.replicate (n - us.length) none
/-- what is forgotten does not harm -/
def Sub (M' M : Hm) : Prop := ∀ a o, M' a = some o → M a = some o
/-- the promises at depth k -/
def Cs (T : List Df) : Nat → CE
  | 0 => fun _ _ _ _ => False
  | k + 1 => fun f us M Q => ∃ d, T[f]? = some d ∧ us.length = d.ps.length ∧
      wS (Cs T k) d.b ⟨fun _ M' => ∃ M'', Sub M'' M' ∧ Q .non M'', fun u M' => ∃ M'', Sub M'' M' ∧ Q u M'', fun _ _ => False, fun _ _ => False⟩ (startU d.N.length us) M
end Pl

set_option maxHeartbeats 4000000
/-! operations by values keep what they are said to do -/
namespace Pl
open PySem L2
theorem lim_line : LIM < sizeLine := by rw [sizeLine_eq]; decide
theorem le_line {n : Nat} (h : n ≤ LIM) : n ≤ sizeLine := Nat.le_trans h (Nat.le_of_lt lim_line)
theorem lt_line {n : Nat} (h : n < LIM) : n < sizeLine := Nat.lt_trans h lim_line

section
variable {K : Kw} {H H' : Hp} {M M' : Hm}
theorem RelL.length {vs : List V} {us : List U} (h : RelL K H vs us) : vs.length = us.length := by
  induction vs generalizing us with
  | nil => cases h; rfl
  | cons v vs ih => cases h with
    | cons a b => rw [List.length_cons, List.length_cons, ih b]
theorem RelL.get {vs : List V} {us : List U} {i : Nat} {u : U} (h : RelL K H vs us) (e : us[i]? = some u) : ∃ v, vs[i]? = some v ∧ Rel K H v u := by
  induction vs generalizing us i with
  | nil => cases h; simp at e
  | cons v vs ih => cases h with
    | cons a b => cases i with
      | zero => simp at e; subst e; exact ⟨v, rfl, a⟩
      | succ i => obtain ⟨x, q, r⟩ := ih b (by simpa using e); exact ⟨x, by simpa using q, r⟩
theorem RelL.append {vs ws : List V} {us xs : List U} (h : RelL K H vs us) (k : RelL K H ws xs) : RelL K H (vs ++ ws) (us ++ xs) := by
  induction vs generalizing us with
  | nil => cases h; exact k
  | cons v vs ih => cases h with
    | cons a b => exact .cons a (ih b)
theorem RelL.take {vs : List V} {us : List U} (n : Nat) (h : RelL K H vs us) : RelL K H (vs.take n) (us.take n) := by
  induction n generalizing vs us with
  | zero => exact .nil
  | succ n ih => cases h with
    | nil => exact .nil
    | cons a b => exact .cons a (ih b)
theorem RelL.drop {vs : List V} {us : List U} (n : Nat) (h : RelL K H vs us) : RelL K H (vs.drop n) (us.drop n) := by
  induction n generalizing vs us with
  | zero => exact h
  | succ n ih => cases h with
    | nil => exact .nil
    | cons a b => exact ih b
theorem RelL.set {vs : List V} {us : List U} {v : V} {u : U} (k : Nat) (r : Rel K H v u) (h : RelL K H vs us) : RelL K H (vs.set k v) (us.set k u) := by
  induction k generalizing vs us with
  | zero => cases h with
    | nil => exact .nil
    | cons a b => exact .cons r b
  | succ n ih => cases h with
    | nil => exact .nil
    | cons a b => exact .cons a (ih b)
theorem RelL.eraseIdx {vs : List V} {us : List U} (k : Nat) (h : RelL K H vs us) : RelL K H (vs.eraseIdx k) (us.eraseIdx k) := by
  induction k generalizing vs us with
  | zero => cases h with
    | nil => exact .nil
    | cons a b => exact b
  | succ n ih => cases h with
    | nil => exact .nil
    | cons a b => exact .cons a (ih b)
theorem RelL.dropLast {vs : List V} {us : List U} (h : RelL K H vs us) : RelL K H vs.dropLast us.dropLast := by
  rw [List.dropLast_eq_take, List.dropLast_eq_take, h.length]
  exact h.take _
theorem RelL.rep {vs : List V} {us : List U} (h : RelL K H vs us) : ∀ n : Nat, RelL K H (List.replicate n vs).flatten (List.replicate n us).flatten
  | 0 => .nil
  | n + 1 => by
    rw [List.replicate_succ, List.replicate_succ, List.flatten_cons, List.flatten_cons]
    exact h.append (RelL.rep h n)
theorem RelL.strs : ∀ xs : List Str, RelL K H (xs.map V.str) (xs.map U.str)
  | [] => .nil
  | x :: xs => .cons (.str x) (RelL.strs xs)
theorem RelL.nil_iff {vs : List V} {us : List U} (h : RelL K H vs us) : vs = [] ↔ us = [] := by
  cases h <;> simp
theorem RelL.isEmpty {vs : List V} {us : List U} (h : RelL K H vs us) : vs.isEmpty = us.isEmpty := by
  cases h <;> rfl

/-! ### how the heap grows -/
theorem Paired.mapR {α β : Type} {F G : α → β → Prop} {xs : List α} {ys : List β} (h : Paired F xs ys) (k : ∀ a b, F a b → G a b) : Paired G xs ys := by
  induction h with
  | nil => exact .nil
  | cons a _ ih => exact .cons (k _ _ a) ih
theorem OR.stp (S : Sim K H M) (t : Stp H M H' M') {a : Addr} {o : MO} (e : H' a = H a) (h : OR K H a o) : OR K H' a o := by
  cases o with
  | lst us =>
    obtain ⟨vs, q, r⟩ := h
    exact ⟨vs, by rw [e]; exact q, r.stp S t⟩
  | dct z tt ks =>
    cases tt with
    | false => obtain ⟨kvs, q, r⟩ := h; exact ⟨kvs, by rw [e]; exact q, Paired.mapR r fun p q x => ⟨x.1, x.2.stp S t⟩⟩
    | true => obtain ⟨kvs, q, r⟩ := h; exact ⟨kvs, by rw [e]; exact q, Paired.mapR r fun p q x => ⟨x.1, x.2.stp S t⟩⟩
  | dcn ks => obtain ⟨xs, q, r, r2⟩ := h; exact ⟨xs, by rw [e]; exact q, Paired.mapR r fun p q x => ⟨⟨x.1.1, x.1.2.1, x.1.2.2.stp S t⟩, x.2.elim fun v y => ⟨v, y.1, y.2.stp S t⟩⟩, r2⟩
  | obj c fs => obtain ⟨dx, vs, q, r, r2⟩ := h; exact ⟨dx, vs, by rw [e]; exact q, Paired.mapR r fun p q x => ⟨x.1, x.2.stp S t⟩, r2⟩
theorem Sim.to (S : Sim K H M) (t : Stp H M H' M') (h : ∀ a o, M' a = some o → (M a = some o ∧ H' a = H a) ∨ OR K H' a o) : Sim K H' M' := fun a o e => by
  rcases h a o e with ⟨e1, e2⟩ | q
  · exact (S a o e1).stp S t e2
  · exact q
theorem Stp.new {p : Addr} {o : HO} {m : MO} (S : Sim K H M) (hp : H p = none) : Stp H M (upd H p o) (um M p m) :=
  ⟨fun a x h n =>
    have ne : a ≠ p := ne_of_none h hp
    ⟨by rw [upd_ne ne]; exact h, by rw [um_ne ne]; exact n⟩, fun a t ks e => by
    obtain ⟨x, h⟩ := (S a _ e).has
    have ne : a ≠ p := ne_of_none h hp
    exact ⟨upd_ne ne, .inl (um_ne ne)⟩⟩
theorem Stp.newT {p : Addr} {o : HO} (S : Sim K H M) (hp : H p = none) : Stp H M (upd H p o) M :=
  ⟨fun a x h n => ⟨by rw [upd_ne (ne_of_none h hp)]; exact h, n⟩, fun a t ks e => by
    obtain ⟨x, h⟩ := (S a _ e).has
    exact ⟨upd_ne (ne_of_none h hp), .inl rfl⟩⟩
def unlocked : MO → Bool
  | .dct true _ _ => false
  | _ => true
theorem Stp.mut {p : Addr} {o : HO} {m m' : MO} (hp : M p = some m') (hu : unlocked m' = true := by rfl) : Stp H M (upd H p o) (um M p m) :=
  ⟨fun a x h n =>
    have ne : a ≠ p := fun e => by rw [e, hp] at n; cases n
    ⟨by rw [upd_ne ne]; exact h, by rw [um_ne ne]; exact n⟩, fun a t ks e => by
    have ne : a ≠ p := fun z => by
      rw [z, hp] at e
      cases e
      cases hu
    exact ⟨upd_ne ne, .inl (um_ne ne)⟩⟩
theorem Sim.new (S : Sim K H M) {p : Addr} {o : HO} {m : MO} (hp : H p = none) (new : OR K (upd H p o) p m) : Sim K (upd H p o) (um M p m) :=
  S.to (Stp.new S hp) fun a x e => by
    by_cases h : a = p
    · subst h
      rw [um_same] at e
      cases e
      exact .inr new
    · rw [um_ne h] at e
      exact .inl ⟨e, upd_ne h⟩
theorem Sim.newT (S : Sim K H M) {p : Addr} {vs : List V} (hp : H p = none) : Sim K (upd H p (.tup vs)) M :=
  S.to (Stp.newT S hp) fun a x e => .inl ⟨e, upd_ne fun z => by
    have q := S.fr hp
    rw [z, q] at e
    cases e⟩
theorem Sim.mut (S : Sim K H M) {p : Addr} {o : HO} {m m' : MO} (hp : M p = some m') (hu : unlocked m' = true) (new : OR K (upd H p o) p m) : Sim K (upd H p o) (um M p m) :=
  S.to (Stp.mut hp hu) fun a x e => by
    by_cases h : a = p
    · subst h
      rw [um_same] at e
      cases e
      exact .inr new
    · rw [um_ne h] at e
      exact .inl ⟨e, upd_ne h⟩
theorem Sim.sub (S : Sim K H M) (s : Sub M' M) : Sim K H M' := fun a o e => S a o (s a o e)
theorem Stp.sub (s : Sub M' M) : Stp H M H M' := ⟨fun a o h n => ⟨h, by
  cases e : M' a with
  | none => rfl
  | some x => rw [s a x e] at n; cases n⟩, fun a t ks e => ⟨rfl, by
  cases e2 : M' a with
  | none => exact .inr rfl
  | some x => exact .inl (s a x e2).symm⟩⟩
end

/-! ### continuations -/
def Cont (K : Kw) (H : Hp) (M : Hm) (Qu : QU) (Q : VK) : Prop := ∀ v H' u M', Stp H M H' M' → Sim K H' M' → Rel K H' v u → Qu u M' → Q v H'
def ContB (K : Kw) (H : Hp) (M : Hm) (Qu : Bool → Hm → Prop) (Q : Bool → Hp → Prop) : Prop := ∀ b H' M', Stp H M H' M' → Sim K H' M' → Qu b M' → Q b H'
def ContL (K : Kw) (H : Hp) (M : Hm) (Qu : List U → Hm → Prop) (Q : List V → Hp → Prop) : Prop := ∀ v H' u M', Stp H M H' M' → Sim K H' M' → RelL K H' v u → Qu u M' → Q v H'
section
variable {K : Kw} {H H' : Hp} {M M' : Hm} {Qu : QU} {Q : VK}
theorem Cont.at_ (c : Cont K H M Qu Q) (S : Sim K H M) {v : V} {u : U} (r : Rel K H v u) (q : Qu u M) : Q v H := c v H u M (Stp.refl H M) S r q
theorem Cont.bl (c : Cont K H M (fun u M => ∃ b, u = .bl b ∧ Qu u M) Q) : True := trivial
theorem Cont.tr {H1 : Hp} {M1 : Hm} (S0 : Sim K H M) (t : Stp H M H1 M1) (c : Cont K H M Qu Q) : Cont K H1 M1 Qu Q := fun v H' u M' t' S r q => c v H' u M' (t.trans S0 t') S r q
theorem ContB.tr {H1 : Hp} {M1 : Hm} {Qu : Bool → Hm → Prop} {Q : Bool → Hp → Prop} (S0 : Sim K H M) (t : Stp H M H1 M1) (c : ContB K H M Qu Q) : ContB K H1 M1 Qu Q := fun v H' M' t' S q => c v H' M' (t.trans S0 t') S q
theorem ContL.tr {H1 : Hp} {M1 : Hm} {Qu : List U → Hm → Prop} {Q : List V → Hp → Prop} (S0 : Sim K H M) (t : Stp H M H1 M1) (c : ContL K H M Qu Q) : ContL K H1 M1 Qu Q := fun v H' u M' t' S r q => c v H' u M' (t.trans S0 t') S r q
/-- a new tuple -/
theorem Cont.tup (c : Cont K H M Qu Q) (S : Sim K H M) {vs : List V} {us : List U} (r : RelL K H vs us) (q : Qu (.tup us) M) {p : Addr} (hp : H p = none) : Q (.ref p) (upd H p (.tup vs)) :=
  c _ _ (.tup us) M (Stp.newT S hp) (S.newT hp) (.tup (.inl upd_same) (r.stp S (Stp.newT S hp))) q
/-- a new list -/
theorem Cont.lst (c : Cont K H M Qu Q) (S : Sim K H M) {vs : List V} {us : List U} (r : RelL K H vs us) (q : ∀ p, M p = none → Qu (.ref p) (um M p (.lst us))) {p : Addr} (hp : H p = none) : Q (.ref p) (upd H p (.lst vs)) :=
  c _ _ (.ref p) (um M p (.lst us)) (Stp.new S hp) (S.new (m := .lst us) hp ⟨vs, upd_same, r.stp S (Stp.new (m := .lst us) S hp)⟩) (.ref p) (q p (S.fr hp))
/-- a list changed -/
theorem Cont.mutL (c : Cont K H M Qu Q) (S : Sim K H M) {p : Addr} {ws : List U} {vs : List V} {us : List U} (hm : M p = some (.lst ws)) (r : RelL K H vs us) {v : V} {u : U} (rv : Rel K H v u) (q : Qu u (um M p (.lst us))) : Q v (upd H p (.lst vs)) :=
  c _ _ u (um M p (.lst us)) (Stp.mut hm) (S.mut (m := .lst us) hm rfl ⟨vs, upd_same, r.stp S (Stp.mut (m := .lst us) hm)⟩) (rv.stp S (Stp.mut (m := .lst us) hm)) q
end
/-- the reading of a two-place operation -/
def R2s (K : Kw) (f : U → U → Hm → QU → Prop) : R2 := fun x y H Q => ∃ a b M Qu, Sim K H M ∧ Rel K H x a ∧ Rel K H y b ∧ f a b M Qu ∧ Cont K H M Qu Q
def bopOf : Bop → Operator
  | .add => .Add | .sub => .Sub | .mul => .Mult | .fdiv => .FloorDiv | .mod => .Mod | .pow => .Pow | .shl => .LShift | .shr => .RShift | .band => .BitAnd | .bor => .BitOr
def copOf : Cop → CmpOp
  | .eq => .Eq | .ne => .NotEq | .lt => .Lt | .le => .LtE | .gt => .Gt | .ge => .GtE | .isin => .In | .notin => .NotIn
section
variable {X : Cx}
theorem op_binS (op : Bop) : OpR X (binaryOp (bopOf op)) (R2s (kwX X) (binW op)) := by
  intro pins s σ H x y v u Q I rx ry h
  obtain ⟨a, b, M, Qu, S, ra, rb, hf, c⟩ := h
  have int2 : ∀ {i j : Int}, a = .int i → b = .int j → x = .int i ∧ y = .int j := fun {i j} e1 e2 => by
    subst e1 e2
    cases ra
    cases rb
    exact ⟨rfl, rfl⟩
  unfold binW at hf
  split at hf
  · cases ra; cases rb; exact op_add pins s σ H _ _ v u Q I rx ry ⟨_, _, rfl, rfl, c.at_ S (.int _) hf⟩
  · cases ra; cases rb; exact op_sub pins s σ H _ _ v u Q I rx ry ⟨_, _, rfl, rfl, c.at_ S (.int _) hf⟩
  · cases ra; cases rb; exact op_mul pins s σ H _ _ v u Q I rx ry ⟨_, _, rfl, rfl, hf.1, c.at_ S (.int _) hf.2⟩
  · cases ra; cases rb; exact op_fdiv pins s σ H _ _ v u Q I rx ry ⟨_, _, rfl, rfl, hf.1, c.at_ S (.int _) hf.2⟩
  · cases ra; cases rb; exact op_mod pins s σ H _ _ v u Q I rx ry ⟨_, _, rfl, rfl, hf.1, c.at_ S (.int _) hf.2⟩
  · cases ra; cases rb; exact op_pow pins s σ H _ _ v u Q I rx ry ⟨_, _, rfl, rfl, hf.1, c.at_ S (.int _) hf.2⟩
  · cases ra; cases rb; exact op_shl pins s σ H _ _ v u Q I rx ry ⟨_, _, rfl, rfl, hf.1, c.at_ S (.int _) hf.2⟩
  · cases ra; cases rb; exact op_shr pins s σ H _ _ v u Q I rx ry ⟨_, _, rfl, rfl, hf.1, c.at_ S (.int _) hf.2⟩
  · cases ra; cases rb; exact op_and pins s σ H _ _ v u Q I rx ry ⟨_, _, rfl, rfl, c.at_ S (.int _) hf⟩
  · cases ra; cases rb; exact op_or pins s σ H _ _ v u Q I rx ry ⟨_, _, rfl, rfl, c.at_ S (.int _) hf⟩
  · cases ra; cases rb; exact op_add_str pins s σ H _ _ v u Q I rx ry ⟨_, _, rfl, rfl, le_line hf.1, c.at_ S (.str _) hf.2⟩
  · cases ra with
    | tup t1 r1 =>
      cases rb with
      | tup t2 r2 =>
        rename_i la lb p vs q ws
        refine op_catA pins s σ H _ _ v u Q I rx ry ⟨p, q, vs, ws, rfl, rfl, t1.sq, t2.sq, by rw [r1.length, r2.length]; exact le_line hf.1, fun e => ?_, fun _ e => ?_, fun _ _ n hn => c.tup S (r1.append r2) hf.2 hn⟩
        · have e1 : la = [] := r1.nil_iff.mp e
          have q2 := hf.2
          rw [e1, List.nil_append] at q2
          exact c.at_ S (.tup t2 r2) q2
        · have e1 : lb = [] := r2.nil_iff.mp e
          have q2 := hf.2
          rw [e1, List.append_nil] at q2
          exact c.at_ S (.tup t1 r1) q2
  · obtain ⟨us, h1, k1, k2, hl, hq⟩ := hf
    obtain ⟨vs, g1, r1⟩ := S _ _ h1
    cases ra; cases rb
    refine op_rep pins s σ H _ _ v u Q I rx ry ⟨_, _, vs, rfl, rfl, g1, by unfold LIM at k1; omega, by unfold LIM at k2; omega, by rw [r1.length]; exact le_line hl, fun n hn => c.lst S (RelL.rep r1 _) hq hn⟩
  · obtain ⟨us, ws, h1, h2, hl, hq⟩ := hf
    obtain ⟨vs, g1, r1⟩ := S _ _ h1
    obtain ⟨xs, g2, r2⟩ := S _ _ h2
    cases ra; cases rb
    exact op_cat pins s σ H _ _ v u Q I rx ry ⟨_, _, _, _, rfl, rfl, g1, g2, by rw [r1.length, r2.length]; exact le_line hl, fun n hn => c.lst S (r1.append r2) hq hn⟩
  · exact hf.elim
end
end Pl

set_option maxHeartbeats 4000000
/-! comparisons, truth, subscripts, stores, built-ins by values -/
namespace Pl
open PySem L2
section
variable {K : Kw} {H H' : Hp} {M M' : Hm}
mutual
theorem ok_dp : ∀ (n : Nat) (u : U) (v : V), u.ok n = true → Rel K H v u → Dp K H v (pd u)
  | _, .non, _, _, r => by cases r; exact .non
  | _, .int i, _, _, r => by cases r; exact .int i
  | _, .str x, _, _, r => by cases r; exact .str x
  | n + 1, .tup l, _, h, r => by
    cases r with
    | tup t rl => exact .tup t.sq (ok_dpL n l _ (by simpa [U.ok] using h) rl)
  | 0, .tup l, _, h, r => by simp [U.ok] at h
  | _, .bl _, _, h, _ => by simp [U.ok] at h
  | _, .ref _, _, h, _ => by simp [U.ok] at h
  | _, .rol _, _, h, _ => by simp [U.ok] at h
  | _, .dtp _, _, h, _ => by simp [U.ok] at h
theorem ok_dpL : ∀ (n : Nat) (l : List U) (vs : List V), (∀ x ∈ l, x.ok n = true) → RelL K H vs l → DpAll K H vs (pdL l)
  | _, [], _, _, r => by cases r; exact .nil
  | n, x :: xs, _, h, r => by
    cases r with
    | cons a b => exact .cons (ok_dp n x _ (h x List.mem_cons_self) a) (ok_dpL n xs _ (fun y hy => h y (List.mem_cons_of_mem _ hy)) b)
end
end
mutual
theorem ok_lay : ∀ (n : Nat) (u : U), u.ok n = true → (pd u).canLay0 = true ∧ (pd u).depth ≤ n
  | _, .non, _ => ⟨by simp [pd, PyData.canLay0], by simp [pd, PyData.depth]⟩
  | _, .int i, _ => ⟨by simp [pd, PyData.canLay0], by simp [pd, PyData.depth]⟩
  | _, .str x, h => ⟨by
    have q : okS x = true := by simpa [U.ok] using h
    simp only [pd, PyData.canLay0]
    exact q, by simp [pd, PyData.depth]⟩
  | n + 1, .tup l, h => by
    obtain ⟨a, b⟩ := ok_layL n l (by simpa [U.ok] using h)
    refine ⟨?_, ?_⟩
    · simp only [pd, PyData.canLay0]; exact a
    · simp only [pd, PyData.depth]; omega
  | 0, .tup l, h => by simp [U.ok] at h
  | _, .bl _, h => by simp [U.ok] at h
  | _, .ref _, h => by simp [U.ok] at h
  | _, .rol _, h => by simp [U.ok] at h
  | _, .dtp _, h => by simp [U.ok] at h
theorem ok_layL : ∀ (n : Nat) (l : List U), (∀ x ∈ l, x.ok n = true) → PyData.canLayAll0 (pdL l) = true ∧ PyData.depthAll (pdL l) ≤ n
  | _, [], _ => ⟨by simp [pdL, PyData.canLayAll0], by simp [pdL, PyData.depthAll]⟩
  | n, x :: xs, h => by
    obtain ⟨a, b⟩ := ok_lay n x (h x List.mem_cons_self)
    obtain ⟨c, d⟩ := ok_layL n xs (fun y hy => h y (List.mem_cons_of_mem _ hy))
    refine ⟨?_, ?_⟩
    · simp only [pdL, PyData.canLayAll0, a, c, Bool.and_self]
    · simp only [pdL, PyData.depthAll]; omega
end
mutual
theorem ok_eqv : ∀ (n : Nat) (u : U) (m : Nat) (x : U), u.ok n = true → x.ok m = true → PyData.eqv (pd u) (pd x) = decide (u = x)
  | _, .non, m, x, _, h => by cases x <;> first | (simp [pd, PyData.eqv]; done) | simp [U.ok] at h
  | _, .int i, m, x, _, h => by cases x <;> first | (simp [pd, PyData.eqv, Bool.beq_eq_decide_eq]; done) | simp [U.ok] at h
  | _, .str s, m, x, _, h => by cases x <;> first | (simp [pd, PyData.eqv, Bool.beq_eq_decide_eq]; done) | simp [U.ok] at h
  | n + 1, .tup l, m, x, g, h => by
    cases x with
    | tup l2 =>
      cases m with
      | zero => simp [U.ok] at h
      | succ m =>
        have q := ok_eqvL n l m l2 (by simpa [U.ok] using g) (by simpa [U.ok] using h)
        simp only [pd, PyData.eqv, q, U.tup.injEq]
    | bl _ => simp [U.ok] at h
    | ref _ => simp [U.ok] at h
    | rol _ => simp [U.ok] at h
    | dtp _ => simp [U.ok] at h
    | _ => simp [pd, PyData.eqv]
  | 0, .tup l, _, _, h, _ => by simp [U.ok] at h
  | _, .bl _, _, _, h, _ => by simp [U.ok] at h
  | _, .ref _, _, _, h, _ => by simp [U.ok] at h
  | _, .rol _, _, _, h, _ => by simp [U.ok] at h
  | _, .dtp _, _, _, h, _ => by simp [U.ok] at h
theorem ok_eqvL : ∀ (n : Nat) (l : List U) (m : Nat) (l2 : List U), (∀ x ∈ l, x.ok n = true) → (∀ x ∈ l2, x.ok m = true) → PyData.eqvAll (pdL l) (pdL l2) = decide (l = l2)
  | _, [], _, [], _, _ => by simp [pdL, PyData.eqvAll]
  | _, [], _, _ :: _, _, _ => by simp [pdL, PyData.eqvAll]
  | _, _ :: _, _, [], _, _ => by simp [pdL, PyData.eqvAll]
  | n, x :: xs, m, y :: ys, g, h => by
    have a := ok_eqv n x m y (g x List.mem_cons_self) (h y List.mem_cons_self)
    have b := ok_eqvL n xs m ys (fun z hz => g z (List.mem_cons_of_mem _ hz)) (fun z hz => h z (List.mem_cons_of_mem _ hz))
    simp only [pdL, PyData.eqvAll, a, b, List.cons.injEq, Bool.decide_and]
end
theorem ok_shaped {n : Nat} {u : U} (h : u.ok n = true) (hn : n ≤ 64) : SeqAt.shaped (pd u) = true := by
  obtain ⟨a, b⟩ := ok_lay n u h
  unfold SeqAt.shaped
  rw [a, Bool.true_and]
  exact decide_eq_true (by omega)
theorem okL_all {l : List U} (h : okL l = true) : ∀ x ∈ l, x.ok 59 = true := List.all_eq_true.mp h
theorem okL_shaped {l : List U} (h : okL l = true) : SeqAt.shaped (.list (pdL l)) = true := by
  obtain ⟨a, b⟩ := ok_layL 59 l (okL_all h)
  unfold SeqAt.shaped
  have e : (PyData.list (pdL l)).canLay0 = true := by simp only [PyData.canLay0]; exact a
  rw [e, Bool.true_and]
  exact decide_eq_true (by simp only [PyData.depth]; omega)
theorem any_eqv {x : U} (hx : okU x = true) : ∀ (l : List U), (∀ y ∈ l, y.ok 59 = true) → ((pdL l).any fun z => PyData.eqv z (pd x)) = decide (x ∈ l)
  | [], _ => by simp [pdL]
  | y :: ys, h => by
    have a := ok_eqv 59 y 60 x (h y List.mem_cons_self) hx
    have b := any_eqv hx ys fun z hz => h z (List.mem_cons_of_mem _ hz)
    rw [pdL, List.any_cons, a, b, ← Bool.decide_or]
    exact decide_eq_decide.mpr ⟨fun z => z.elim (fun e => by rw [e]; exact List.mem_cons_self) (List.mem_cons_of_mem _), fun z => (List.mem_cons.mp z).elim (fun e => .inl e.symm) .inr⟩

/-! ### keys -/
section
variable {K : Kw} {H H' : Hp} {M M' : Hm}
theorem isKey_of {u : U} {v : V} (h : isKey u = true) (r : Rel K H v u) : ∃ k : Key, u = keyU k ∧ v = kV k := by
  cases r with
  | int i => exact ⟨.inl i, rfl, rfl⟩
  | str x => exact ⟨.inr x, rfl, rfl⟩
  | _ => cases h
theorem isKeys_of : ∀ {us : List U} {vs : List V}, us.all isKey = true → RelL K H vs us → ∃ ks : List Key, us = ks.map keyU ∧ vs = ks.map kV
  | [], _, _, r => by cases r; exact ⟨[], rfl, rfl⟩
  | u :: us, _, h, r => by
    cases r with
    | cons a b =>
      rw [List.all_cons, Bool.and_eq_true] at h
      obtain ⟨k, e1, e2⟩ := isKey_of h.1 a
      obtain ⟨ks, f1, f2⟩ := isKeys_of h.2 b
      exact ⟨k :: ks, by rw [e1, f1]; rfl, by rw [e2, f2]; rfl⟩
theorem isKeyT_of {u : U} {v : V} (h : isKeyT u = true) (r : Rel K H v u) : ∃ (b : Addr) (ks : List Key), u = .tup (ks.map keyU) ∧ v = .ref b ∧ H b = some (.tup (ks.map kV)) := by
  cases r with
  | tup t rl =>
    rename_i a vs us
    have h' : us.all isKey = true ∧ ∃ x l, us = .str x :: l := by
      unfold isKeyT at h
      split at h
      · rename_i e
        injection e with e
        subst e
        exact ⟨by rw [List.all_cons, h]; rfl, _, _, rfl⟩
      · cases h
    obtain ⟨ks, e1, e2⟩ := isKeys_of h'.1 rl
    rcases t with t | ⟨⟨i, r, e⟩, _⟩
    · exact ⟨a, ks, by rw [e1], rfl, by rw [← e2]; exact t⟩
    · obtain ⟨x, l, e3⟩ := h'.2
      subst e e3
      cases rl with
      | cons a b => cases a
  | _ => cases h
theorem dfind_cons (p : U × U) (ks : List (U × U)) (k : U) : dfind (p :: ks) k = if p.1 = k then some p.2 else dfind ks k := by
  unfold dfind
  rw [List.find?_cons]
  by_cases h : p.1 = k
  · simp [h]
  · simp [h]
theorem RelK.find {kvs : List (Key × V)} {ks : List (U × U)} (h : RelK K H kvs ks) (k : Key) : (valV kvs k = none ∧ dfind ks (keyU k) = none) ∨ ∃ v u, valV kvs k = some v ∧ dfind ks (keyU k) = some u ∧ Rel K H v u := by
  unfold RelK at h
  induction h with
  | nil => exact .inl ⟨rfl, rfl⟩
  | @cons p q ps qs a _ ih =>
    rw [dfind_cons]
    by_cases e : p.1 = k
    · right
      refine ⟨p.2, q.2, valV_pos e, ?_, a.2⟩
      rw [if_pos (by rw [a.1, e])]
    · rw [valV_neg e, if_neg (fun z => e (keyU_inj (a.1.symm.trans z)))]
      exact ih
theorem RelT.find {kvs : List (List Key × V)} {ks : List (U × U)} (h : RelT K H kvs ks) (k : List Key) : (valV kvs k = none ∧ dfind ks (.tup (k.map keyU)) = none) ∨ ∃ v u, valV kvs k = some v ∧ dfind ks (.tup (k.map keyU)) = some u ∧ Rel K H v u := by
  unfold RelT at h
  induction h with
  | nil => exact .inl ⟨rfl, rfl⟩
  | @cons p q ps qs a _ ih =>
    rw [dfind_cons]
    by_cases e : p.1 = k
    · right
      refine ⟨p.2, q.2, valV_pos e, ?_, a.2⟩
      rw [if_pos (by rw [a.1, e])]
    · rw [valV_neg e, if_neg (fun z => e (keysU_inj (by
        have z2 := a.1.symm.trans z
        injection z2)))]
      exact ih
theorem Paired.app {α β : Type} {F : α → β → Prop} {xs xs' : List α} {ys ys' : List β} (h : Paired F xs ys) (k : Paired F xs' ys') : Paired F (xs ++ xs') (ys ++ ys') := by
  induction h with
  | nil => exact k
  | cons a _ ih => exact .cons a ih
theorem RelK.put {kvs : List (Key × V)} {ks : List (U × U)} (h : RelK K H kvs ks) (k : Key) {v : V} {u : U} (r : Rel K H v u) : RelK K H (putK kvs k v) (dput ks (keyU k) u) := by
  unfold putK dput
  rw [valV_any]
  have c : (valV kvs k).isSome = (dfind ks (keyU k)).isSome := by
    rcases h.find k with ⟨a, b⟩ | ⟨_, _, a, b, _⟩ <;> rw [a, b] <;> rfl
  rw [c]
  by_cases z : (dfind ks (keyU k)).isSome = true
  · rw [if_pos z, if_pos z]
    unfold RelK at h ⊢
    clear z c
    induction h with
    | nil => exact .nil
    | @cons p q ps qs a _ ih =>
      rw [List.map_cons, List.map_cons]
      refine .cons ?_ ih
      by_cases e : p.1 = k
      · rw [if_pos e, if_pos (by rw [a.1, e])]
        exact ⟨a.1, r⟩
      · rw [if_neg e, if_neg (fun z => e (keyU_inj (a.1.symm.trans z)))]
        exact a
  · rw [if_neg z, if_neg z]
    exact Paired.app h (.cons ⟨rfl, r⟩ .nil)
theorem RelT.put {kvs : List (List Key × V)} {ks : List (U × U)} (h : RelT K H kvs ks) (k : List Key) {v : V} {u : U} (r : Rel K H v u) : RelT K H (putK kvs k v) (dput ks (.tup (k.map keyU)) u) := by
  unfold putK dput
  rw [valV_any]
  have c : (valV kvs k).isSome = (dfind ks (.tup (k.map keyU))).isSome := by
    rcases h.find k with ⟨a, b⟩ | ⟨_, _, a, b, _⟩ <;> rw [a, b] <;> rfl
  rw [c]
  by_cases z : (dfind ks (.tup (k.map keyU))).isSome = true
  · rw [if_pos z, if_pos z]
    unfold RelT at h ⊢
    clear z c
    induction h with
    | nil => exact .nil
    | @cons p q ps qs a _ ih =>
      rw [List.map_cons, List.map_cons]
      refine .cons ?_ ih
      by_cases e : p.1 = k
      · rw [if_pos e, if_pos (by rw [a.1, e])]
        exact ⟨a.1, r⟩
      · rw [if_neg e, if_neg (fun z => e (keysU_inj (by
          have z2 := a.1.symm.trans z
          injection z2)))]
        exact a
  · rw [if_neg z, if_neg z]
    exact Paired.app h (.cons ⟨rfl, r⟩ .nil)
theorem RelK.len {kvs : List (Key × V)} {ks : List (U × U)} (h : RelK K H kvs ks) : kvs.length = ks.length := Paired.length h
theorem RelT.len {kvs : List (List Key × V)} {ks : List (U × U)} (h : RelT K H kvs ks) : kvs.length = ks.length := Paired.length h
theorem fz_rd {z : Bool} {a : Addr} {u : HO} (h : fz z (H a) u) : Rd H a u := by
  unfold fz at h
  cases z with
  | true => exact .inr (show ∃ ob, H a = some (.frz ob u) from h)
  | false => exact .inl h
/-- what a dict holds -/
theorem dget_of (S : Sim K H M) {p : Addr} {z t : Bool} {ks : List (U × U)} {k : U} {y : V} (hm : M p = some (.dct z t ks)) (hk : keyFor t k = true) (r : Rel K H y k) :
    ∃ o, DGet H p y o ∧ ((o = none ∧ dfind ks k = none) ∨ ∃ v u, o = some v ∧ dfind ks k = some u ∧ Rel K H v u) := by
  have q := S p _ hm
  cases t with
  | false =>
    obtain ⟨kvs, e, rk⟩ := q
    obtain ⟨key, e1, e2⟩ := isKey_of hk r
    refine ⟨valV kvs key, .inl ⟨kvs, key, fz_rd e, e2, rfl⟩, ?_⟩
    rw [e1]
    exact rk.find key
  | true =>
    obtain ⟨kvs, e, rk⟩ := q
    obtain ⟨b, key, e1, e2, e3⟩ := isKeyT_of hk r
    refine ⟨valV kvs key, .inr ⟨kvs, key, b, fz_rd e, e2, e3, rfl⟩, ?_⟩
    rw [e1]
    exact rk.find key
theorem dput_of (S : Sim K H M) {p : Addr} {t : Bool} {ks : List (U × U)} {k u : U} {y v : V} (hm : M p = some (.dct false t ks)) (hk : keyFor t k = true) (r : Rel K H y k) (rv : Rel K H v u) (hl : ks.length < LIM) :
    ∃ H', DPut H p y v H' ∧ Stp H M H' (um M p (.dct false t (dput ks k u))) ∧ Sim K H' (um M p (.dct false t (dput ks k u))) := by
  have q := S p _ hm
  cases t with
  | false =>
    obtain ⟨kvs, e, rk⟩ := q
    have e : H p = some (.dK kvs) := e
    obtain ⟨key, e1, e2⟩ := isKey_of hk r
    have st : Stp H M (upd H p (.dK (putK kvs key v))) (um M p (.dct false false (dput ks k u))) := Stp.mut hm
    refine ⟨_, .inl ⟨kvs, key, e, e2, by rw [rk.len]; exact lt_line hl, rfl⟩, st, S.mut (m := .dct false false (dput ks k u)) hm rfl ⟨_, upd_same, ?_⟩⟩
    rw [e1]
    exact RelK.put (Paired.mapR rk fun p q x => ⟨x.1, x.2.stp S st⟩) key (rv.stp S st)
  | true =>
    obtain ⟨kvs, e, rk⟩ := q
    have e : H p = some (.dT kvs) := e
    obtain ⟨b, key, e1, e2, e3⟩ := isKeyT_of hk r
    have st : Stp H M (upd H p (.dT (putK kvs key v))) (um M p (.dct false true (dput ks k u))) := Stp.mut hm
    refine ⟨_, .inr ⟨kvs, key, b, e, e2, e3, by rw [rk.len]; exact lt_line hl, rfl⟩, st, S.mut (m := .dct false true (dput ks k u)) hm rfl ⟨_, upd_same, ?_⟩⟩
    rw [e1]
    exact RelT.put (Paired.mapR rk fun p q x => ⟨x.1, x.2.stp S st⟩) key (rv.stp S st)
theorem relL_in {k : Key} : ∀ {ks : List Key} , inV (kV k) (ks.map kV) = decide (keyU k ∈ ks.map keyU)
  | [] => by simp [inV]
  | x :: xs => by
    have ih := @relL_in k xs
    unfold inV at ih ⊢
    rw [List.map_cons, List.any_cons, ih, List.map_cons]
    have e : eqV (kV x) (kV k) = decide (keyU x = keyU k) := by
      cases x <;> cases k <;> simp [kV, eqV, keyU, Bool.beq_eq_decide_eq]
    rw [e, ← Bool.decide_or]
    exact decide_eq_decide.mpr ⟨fun z => z.elim (fun e => by rw [e]; exact List.mem_cons_self) (List.mem_cons_of_mem _), fun z => (List.mem_cons.mp z).elim (fun e => .inl e.symm) .inr⟩
theorem flat_keys : ∀ ks : List Key, (ks.map kV).all flatV = true
  | [] => rfl
  | k :: ks => by rw [List.map_cons, List.all_cons, flat_keys ks]; cases k <;> rfl
end
end Pl

set_option maxHeartbeats 4000000
/-! dicts whose keys are tuples within one another -/
namespace Pl
open PySem L2
mutual
theorem nk_inj : ∀ (n : Nat) (a b : U), a.okN n = true → b.okN n = true → nk a = nk b → a = b
  | _, .non, .non, _, _, _ => rfl
  | _, .int i, .int j, _, _, h => by unfold nk at h; injection h with h; rw [h]
  | _, .str i, .str j, _, _, h => by unfold nk at h; injection h with h; rw [h]
  | n + 1, .tup l, .tup m, h1, h2, h => by
    unfold nk at h
    injection h with h
    unfold U.okN at h1 h2
    rw [List.all_eq_true] at h1 h2
    rw [nkL_inj n l m h1 h2 h]
  | _, .non, .int _, _, _, h => by unfold nk at h; cases h
  | _, .non, .str _, _, _, h => by unfold nk at h; cases h
  | _, .non, .tup _, _, _, h => by unfold nk at h; cases h
  | _, .int _, .non, _, _, h => by unfold nk at h; cases h
  | _, .int _, .str _, _, _, h => by unfold nk at h; cases h
  | _, .int _, .tup _, _, _, h => by unfold nk at h; cases h
  | _, .str _, .non, _, _, h => by unfold nk at h; cases h
  | _, .str _, .int _, _, _, h => by unfold nk at h; cases h
  | _, .str _, .tup _, _, _, h => by unfold nk at h; cases h
  | _, .tup _, .non, _, _, h => by unfold nk at h; cases h
  | _, .tup _, .int _, _, _, h => by unfold nk at h; cases h
  | _, .tup _, .str _, _, _, h => by unfold nk at h; cases h
  | 0, .tup _, .tup _, h1, _, _ => by simp [U.okN] at h1
  | _, .bl _, _, h1, _, _ => by simp [U.okN] at h1
  | _, .ref _, _, h1, _, _ => by simp [U.okN] at h1
  | _, .rol _, _, h1, _, _ => by simp [U.okN] at h1
  | _, .dtp _, _, h1, _, _ => by simp [U.okN] at h1
  | _, _, .bl _, _, h1, _ => by simp [U.okN] at h1
  | _, _, .ref _, _, h1, _ => by simp [U.okN] at h1
  | _, _, .rol _, _, h1, _ => by simp [U.okN] at h1
  | _, _, .dtp _, _, h1, _ => by simp [U.okN] at h1
theorem nkL_inj : ∀ (n : Nat) (a b : List U), (∀ x ∈ a, x.okN n = true) → (∀ x ∈ b, x.okN n = true) → nkL a = nkL b → a = b
  | _, [], [], _, _, _ => rfl
  | n, x :: xs, y :: ys, h1, h2, h => by
    unfold nkL at h
    injection h with h h'
    rw [nk_inj n x y (h1 x List.mem_cons_self) (h2 y List.mem_cons_self) h, nkL_inj n xs ys (fun z hz => h1 z (List.mem_cons_of_mem _ hz)) (fun z hz => h2 z (List.mem_cons_of_mem _ hz)) h']
  | _, [], _ :: _, _, _, h => by unfold nkL at h; cases h
  | _, _ :: _, [], _, _, h => by unfold nkL at h; cases h
end
mutual
theorem nk_depth : ∀ (n : Nat) (a : U), a.okN n = true → (nk a).depth ≤ n
  | _, .non, _ => Nat.zero_le _
  | _, .int i, _ => Nat.zero_le _
  | _, .str i, _ => Nat.zero_le _
  | n + 1, .tup l, h => by
    unfold U.okN at h
    rw [List.all_eq_true] at h
    unfold nk
    show PySem.NestedKey.depthAll (nkL l) + 1 ≤ n + 1
    exact Nat.succ_le_succ (nkL_depth n l h)
  | 0, .tup _, h => by simp [U.okN] at h
  | _, .bl _, h1 => by simp [U.okN] at h1
  | _, .ref _, h1 => by simp [U.okN] at h1
  | _, .rol _, h1 => by simp [U.okN] at h1
  | _, .dtp _, h1 => by simp [U.okN] at h1
theorem nkL_depth : ∀ (n : Nat) (a : List U), (∀ x ∈ a, x.okN n = true) → PySem.NestedKey.depthAll (nkL a) ≤ n
  | _, [], _ => Nat.zero_le _
  | n, x :: xs, h1 => by
    unfold nkL
    show max (nk x).depth (PySem.NestedKey.depthAll (nkL xs)) ≤ n
    exact Nat.max_le.mpr ⟨nk_depth n x (h1 x List.mem_cons_self), nkL_depth n xs (fun z hz => h1 z (List.mem_cons_of_mem _ hz))⟩
end
section
variable {K : Kw} {H : Hp} {P : Program} {wd : World} {h : Heap}
mutual
theorem nk_is (I : HOk P wd H h) (KX : K.1.In h) : ∀ (n : Nat) (u : U) (v : V) (x : Value), u.okN n = true → Rel K H v u → RelV v x → NestedIs h (nk u) x
  | _, .non, _, x, _, r, rv => by cases r; obtain rfl : x = Value.none := rv; exact .none
  | _, .int i, _, x, _, r, rv => by cases r; obtain ⟨t, rfl⟩ := rv; exact .int _ _
  | _, .str i, _, x, _, r, rv => by cases r; obtain ⟨t, rfl⟩ := rv; exact .text _ _
  | n + 1, .tup l, _, x, ok, r, rv => by
    unfold U.okN at ok
    rw [List.all_eq_true] at ok
    cases r with
    | tup t rl =>
      obtain rfl : x = Value.ref _ := rv
      unfold nk
      rcases t with t | ⟨_, o, its, m, h1, h2, h3, _, vv⟩
      · obtain ⟨z, its, vv, o, h1, h2, m, h3⟩ := I _ _ t
        exact .tup h1 h2 h3 (nkL_is I KX n l _ _ ok rl vv)
      · exact .tup (KX _ _ h1) h2 h3 (nkL_is I KX n l _ _ ok rl vv)
  | 0, .tup _, _, _, ok, _, _ => by simp [U.okN] at ok
  | _, .bl _, _, _, ok, _, _ => by simp [U.okN] at ok
  | _, .ref _, _, _, ok, _, _ => by simp [U.okN] at ok
  | _, .rol _, _, _, ok, _, _ => by simp [U.okN] at ok
  | _, .dtp _, _, _, ok, _, _ => by simp [U.okN] at ok
theorem nkL_is (I : HOk P wd H h) (KX : K.1.In h) : ∀ (n : Nat) (us : List U) (vs : List V) (xs : List Value), (∀ x ∈ us, x.okN n = true) → RelL K H vs us → Vals vs xs → NestedAll h (nkL us) xs
  | _, [], _, _, _, r, rv => by cases r; cases rv; exact .nil
  | n, u :: us, _, _, ok, r, rv => by
    cases r with
    | cons r1 r2 =>
      cases rv with
      | cons v1 v2 => exact .cons (nk_is I KX n u _ _ (ok u List.mem_cons_self) r1 v1) (nkL_is I KX n us _ _ (fun z hz => ok z (List.mem_cons_of_mem _ hz)) r2 v2)
end
theorem keyN_ok {u : U} (h : isKeyN u = true) : u.okN 7 = true ∧ ∃ l, u = .tup l := by
  cases u <;> first | cases h | skip
  exact ⟨h, _, rfl⟩
theorem keyN_ref {u : U} {v : V} (h : isKeyN u = true) (r : Rel K H v u) : ∃ a, v = .ref a := by
  obtain ⟨_, l, rfl⟩ := keyN_ok h
  cases r
  exact ⟨_, rfl⟩
theorem keyN_is (I : HOk P wd H h) (KX : K.1.In h) {u : U} {a : Addr} (hk : isKeyN u = true) (r : Rel K H (.ref a) u) : (nestedKind P wd).is h (nk u) a :=
  ⟨nk_is I KX 7 u (.ref a) (.ref a) (keyN_ok hk).1 r rfl, Nat.le_succ_of_le (nk_depth 7 u (keyN_ok hk).1)⟩
theorem paired_append {α β : Type} {F : α → β → Prop} : ∀ {a : List α} {b : List β} {c : List α} {d : List β}, Paired F a b → Paired F c d → Paired F (a ++ c) (b ++ d)
  | _, _, _, _, .nil, h => h
  | _, _, _, _, .cons q r, h => .cons q (paired_append r h)
theorem RelN.len {xs : List NEnt} {ks : List (U × U)} (r : RelN K H xs ks) : xs.length = ks.length := Paired.length r
theorem RelN.find {xs : List NEnt} {ks : List (U × U)} (r : RelN K H xs ks) {k : U} (hk : isKeyN k = true) :
    (atKey xs (nk k) = none ∧ dfind ks k = none) ∨ ∃ q v u, atKey xs (nk k) = some q ∧ dfind ks k = some u ∧ RelV v q.2 ∧ Rel K H v u := by
  induction r with
  | nil => exact .inl ⟨rfl, rfl⟩
  | @cons q p xs ks a _ ih =>
    obtain ⟨⟨a1, a2, a3⟩, v, a4, a5⟩ := a
    have e1 : atKey (q :: xs) (nk k) = if q.1 = nk k then some q.2 else atKey xs (nk k) := by
      unfold atKey
      rw [List.find?_cons]
      by_cases h : q.1 = nk k
      · simp [h]
      · simp [h]
    rw [e1, dfind_cons]
    by_cases h : p.1 = k
    · rw [if_pos h, if_pos (by rw [a2, h])]
      exact .inr ⟨q.2, v, p.2, rfl, rfl, a4, a5⟩
    · rw [if_neg h, if_neg (fun e => h (nk_inj 7 _ _ (keyN_ok a1).1 (keyN_ok hk).1 (a2.symm.trans e)))]
      exact ih
theorem RelN.put {xs : List NEnt} {ks : List (U × U)} (r : RelN K H xs ks) {k u : U} {a : Addr} {v : V} {x : Value} (hk : isKeyN k = true) (rk : Rel K H (.ref a) k) (rv : RelV v x) (ru : Rel K H v u) : RelN K H (storedH xs (nk k) a x) (dput ks k u) := by
  have e : (atKey xs (nk k)).isSome = (dfind ks k).isSome := by
    rcases r.find hk with ⟨h1, h2⟩ | ⟨_, _, _, h1, h2, _⟩ <;> rw [h1, h2] <;> rfl
  unfold storedH dput
  rw [e]
  split
  · clear e
    induction r with
    | nil => exact .nil
    | @cons q p xs ks b _ ih =>
      obtain ⟨⟨a1, a2, a3⟩, v0, a4, a5⟩ := b
      rw [List.map_cons, List.map_cons]
      rename_i hh
      refine .cons ?_ ?_
      · by_cases h : p.1 = k
        · have h2 : q.1 = nk k := by rw [a2, h]
          unfold putAt
          rw [if_pos h, if_pos h2]
          exact ⟨⟨a1, a2, a3⟩, v, rv, ru⟩
        · have h2 : ¬ q.1 = nk k := fun e => h (nk_inj 7 _ _ (keyN_ok a1).1 (keyN_ok hk).1 (a2.symm.trans e))
          unfold putAt
          rw [if_neg h, if_neg h2]
          exact ⟨⟨a1, a2, a3⟩, v0, a4, a5⟩
      · clear ih
        rename_i rr
        clear hh
        induction rr with
        | nil => exact .nil
        | @cons q p xs ks b _ ih =>
          obtain ⟨⟨a1, a2, a3⟩, v0, a4, a5⟩ := b
          rw [List.map_cons, List.map_cons]
          refine .cons ?_ ih
          by_cases h : p.1 = k
          · have h2 : q.1 = nk k := by rw [a2, h]
            unfold putAt
            rw [if_pos h, if_pos h2]
            exact ⟨⟨a1, a2, a3⟩, v, rv, ru⟩
          · have h2 : ¬ q.1 = nk k := fun e => h (nk_inj 7 _ _ (keyN_ok a1).1 (keyN_ok hk).1 (a2.symm.trans e))
            unfold putAt
            rw [if_neg h, if_neg h2]
            exact ⟨⟨a1, a2, a3⟩, v0, a4, a5⟩
  · exact paired_append r (.cons ⟨⟨hk, rfl, rk⟩, v, rv, ru⟩ .nil)
end
section
variable {X : Cx} {pins : List (Addr × Obj)} {σ : L2.St} {H : Hp} {s : Shared} {M : Hm}
theorem dcn_of (I : L2.Inv X pins σ H s) (S : Sim (kwX X) H M) {p : Addr} {ks : List (U × U)} (hm : M p = some (.dcn ks)) :
    ∃ xs, H p = some (.ext (dcnP X.w p xs)) ∧ RelN (kwX X) H xs ks ∧ Heap.DictOfH (nestedKind X.prog X.w) s.heap p xs ∧ (p == sysModules) = false ∧ xs.length ≤ sizeLine := by
  obtain ⟨xs, e, r, hs, hz⟩ := S _ _ hm
  refine ⟨xs, e, r, ?_, hs, hz⟩
  obtain ⟨⟨o, es, ep, h1, h2, h3, h4, h5⟩, _⟩ := I.hok _ _ e
  refine ⟨o, es, ep, h1, h2, h3, h4, fun x hx => ?_, h5⟩
  have key : ∀ {xs : List NEnt} {ks : List (U × U)}, RelN (kwX X) H xs ks → ∀ x ∈ xs, (nestedKind X.prog X.w).is s.heap x.1 x.2.1 := fun r => by
    induction r with
    | nil => intro x hx; cases hx
    | cons a _ ih =>
      intro x hx
      rcases List.mem_cons.mp hx with rfl | hx
      · rw [a.1.2.1]
        exact keyN_is I.hok I.kIn a.1.1 a.1.2.2
      · exact ih x hx
  exact key r x hx
theorem dcn_ok {h : Heap} {a : Addr} {xs : List NEnt} (d : dcnP X.w a xs h) : ObjOk X.prog X.w (upd H a (.ext (dcnP X.w a xs))) h a (.ext (dcnP X.w a xs)) := by
  refine ⟨d, ?_, ?_⟩
  · obtain ⟨o, _, _, h1, _⟩ := d
    exact ⟨o, h1⟩
  · intro h1 h2 ⟨o, es, ep, g1, g2⟩ k
    exact ⟨o, es, ep, k o g1, g2⟩
variable {A : Around} {E : Value → Shared → Prop}
theorem n_in (hu : A.units + 66 < cLine) (I : L2.Inv X pins σ H s) (S : Sim (kwX X) H M) {p : Addr} {ks : List (U × U)} (hm : M p = some (.dcn ks)) {k : U} {v : V} {u : Value} (hk : isKeyN k = true) (r : Rel (kwX X) H v k) (rv : RelV v u) {Q : Value → Shared → Prop}
    (q : ∀ s', L2.Inv X pins σ H s' → Q (.bool (dfind ks k).isSome) s') : wpAny (model X.prog X.w) A (compareOp .In u (.ref p)) Q E s := by
  obtain ⟨xs, e, rn, dd, hs, hz⟩ := dcn_of I S hm
  obtain ⟨a, rfl⟩ := keyN_ref hk r
  obtain rfl : u = Value.ref a := rv
  refine wpAny_in_heap (knd := nestedKind X.prog X.w) (show (nestedKind X.prog X.w).room A.in1 from (show A.in1.units + 8 < cLine by unfold Around.in1; simp only; omega)) (keyN_is I.hok I.kIn hk r) hs dd ?_
  have e2 : (atKey xs (nk k)).isSome = (dfind ks k).isSome := by
    rcases rn.find hk with ⟨h1, h2⟩ | ⟨_, _, _, h1, h2, _⟩ <;> rw [h1, h2] <;> rfl
  rw [e2]
  exact q _ (I.tok _)
theorem n_notIn (hu : A.units + 66 < cLine) (I : L2.Inv X pins σ H s) (S : Sim (kwX X) H M) {p : Addr} {ks : List (U × U)} (hm : M p = some (.dcn ks)) {k : U} {v : V} {u : Value} (hk : isKeyN k = true) (r : Rel (kwX X) H v k) (rv : RelV v u) {Q : Value → Shared → Prop}
    (q : ∀ s', L2.Inv X pins σ H s' → Q (.bool !(dfind ks k).isSome) s') : wpAny (model X.prog X.w) A (compareOp .NotIn u (.ref p)) Q E s := by
  obtain ⟨xs, e, rn, dd, hs, hz⟩ := dcn_of I S hm
  obtain ⟨a, rfl⟩ := keyN_ref hk r
  obtain rfl : u = Value.ref a := rv
  refine PyProof.Rows.wpAny_notIn_heap (knd := nestedKind X.prog X.w) (show (nestedKind X.prog X.w).room A.in1 from (show A.in1.units + 8 < cLine by unfold Around.in1; simp only; omega)) (keyN_is I.hok I.kIn hk r) hs dd ?_
  have e2 : (atKey xs (nk k)).isSome = (dfind ks k).isSome := by
    rcases rn.find hk with ⟨h1, h2⟩ | ⟨_, _, _, h1, h2, _⟩ <;> rw [h1, h2] <;> rfl
  rw [e2]
  exact q _ (I.tok _)
theorem dcn_typeIs (I : L2.Inv X pins σ H s) (S : Sim (kwX X) H M) {p : Addr} {ks : List (U × U)} (hm : M p = some (.dcn ks)) : s.TypeIs (.ref p) "dict" := by
  obtain ⟨xs, e, rn, dd, hs, hz⟩ := dcn_of I S hm
  exact dd.typeIs
/-- list(d) -/
theorem n_list (hc : X.calm = true) (I : L2.Inv X pins σ H s) (S : Sim (kwX X) H M) {p : Addr} {ks : List (U × U)} (hm : M p = some (.dcn ks)) {Q : VK}
    (q : ∀ vs n, RelL (kwX X) H vs (ks.map (·.1)) → H n = none → Q (.ref n) (upd H n (.lst vs))) : wpAny (model X.prog X.w) X.A (call (.type "list") [.ref p]) (EP X pins σ Q) X.xe s := by
  obtain ⟨xs, e, rn, dd, hs, hz⟩ := dcn_of I S hm
  obtain ⟨o, es, ep, h1, h2, h3, h4, h5, h6⟩ := dd
  have l1 : es.size = xs.length := PySem.size_of_entries h4
  refine W.kdl_call (L2.kdl_raw hs h2 h3) (I.ok.hd hc) h1 (by omega) fun h' tk acc c' kp hl it => ?_
  have hsz : acc.toList.length = xs.length := by rw [Array.length_toList, it.1]; exact l1
  have ea : acc.toList = (xs.map (·.2.1)).map Value.ref := by
    refine List.ext_getElem? fun j => ?_
    rw [List.map_map, List.getElem?_map]
    cases hj : acc.toList[j]? with
    | none =>
      have h1 := List.getElem?_eq_none_iff.mp hj
      rw [List.getElem?_eq_none (by omega)]
      rfl
    | some v =>
      obtain ⟨en, hen, hv⟩ := it.2 j v (by rw [← Array.getElem?_toList]; exact hj)
      have qe := PySem.entry_at h4 j
      rw [hen] at qe
      cases hb : xs[j]? with
      | none => rw [hb] at qe; cases qe
      | some b =>
        rw [hb] at qe
        have e2 := Option.some.inj qe
        rw [hv, e2]
        rfl
  have hf := I.hok.fresh (Nat.le_refl s.heap.objs.size)
  have I2 : L2.Inv X pins σ (upd H s.heap.objs.size (.lst ((xs.map (·.2.1)).map V.ref))) { heap := h', gens := s.gens, drawn := s.drawn, toks := tk, os := s.os } :=
    I.laid (t' := tk) kp (Nat.le_refl _) ⟨by rw [List.length_map, List.length_map]; exact hz, acc.toList, c', by rw [ea]; exact vals_refs _, hl⟩
  refine ⟨.ref _, _, I2, rfl, q _ _ ?_ hf⟩
  have key : ∀ {xs : List NEnt} {ks : List (U × U)}, RelN (kwX X) H xs ks → RelL (kwX X) H ((xs.map (·.2.1)).map V.ref) (ks.map (·.1)) := fun r => by
    induction r with
    | nil => exact .nil
    | cons a _ ih => exact .cons a.1.2.2 ih
  exact key rn
theorem n_getItem (hu : A.units + 66 < cLine) (I : L2.Inv X pins σ H s) (S : Sim (kwX X) H M) {p : Addr} {ks : List (U × U)} (hm : M p = some (.dcn ks)) {k w : U} {v : V} {u : Value} (hk : isKeyN k = true) (r : Rel (kwX X) H v k) (rv : RelV v u) (hw : dfind ks k = some w) {Q : Value → Shared → Prop}
    (q : ∀ y y' s', L2.Inv X pins σ H s' → RelV y y' → Rel (kwX X) H y w → Q y' s') : wpAny (model X.prog X.w) A (getItem (.ref p) u) Q E s := by
  obtain ⟨xs, e, rn, dd, hs, hz⟩ := dcn_of I S hm
  obtain ⟨a, rfl⟩ := keyN_ref hk r
  obtain rfl : u = Value.ref a := rv
  rcases rn.find hk with ⟨h1, h2⟩ | ⟨q0, y, w', h1, h2, h3, h4⟩
  · rw [hw] at h2; cases h2
  · rw [hw] at h2
    cases h2
    exact wpAny_getItem_heap (knd := nestedKind X.prog X.w) (show A.in1.units + 8 < cLine by unfold Around.in1; simp only; omega) (keyN_is I.hok I.kIn hk r) dd h1 (q y _ _ (I.tok _) h3 h4)
theorem n_setItem (hu : A.units + 66 < cLine) (I : L2.Inv X pins σ H s) (S : Sim (kwX X) H M) {p : Addr} {ks : List (U × U)} (hm : M p = some (.dcn ks)) (hl : ks.length < LIM) {k w : U} {v y : V} {u x : Value} (hk : isKeyN k = true) (r : Rel (kwX X) H v k) (rv : RelV v u) (ry : RelV y x) (rw' : Rel (kwX X) H y w) {Q : Unit → Shared → Prop}
    (q : ∀ H' s', L2.Inv X pins σ H' s' → Stp H M H' (um M p (.dcn (dput ks k w))) → Sim (kwX X) H' (um M p (.dcn (dput ks k w))) → Q () s') : wpAny (model X.prog X.w) A (setItem (.ref p) u x) Q E s := by
  obtain ⟨xs, e, rn, dd, hs, hz⟩ := dcn_of I S hm
  obtain ⟨a, rfl⟩ := keyN_ref hk r
  obtain rfl : u = Value.ref a := rv
  refine wpAny_setItem_heap (knd := nestedKind X.prog X.w) (show A.in1.units + 8 < cLine by unfold Around.in1; simp only; omega) (keyN_is I.hok I.kIn hk r) dd (fun h' dd' sb => ?_) hz
  obtain ⟨o, es, ep, h1, h2, h3, h4, h5, h6⟩ := dd'
  have hd : dcnP X.w p (storedH xs (nk k) a x) h' := ⟨o, es, ep, h1, h2, h3, h4, h6⟩
  have I2 : L2.Inv X pins σ (upd H p (.ext (dcnP X.w p (storedH xs (nk k) a x)))) { heap := h', gens := s.gens, drawn := s.drawn, toks := s.toks + (nestedKind X.prog X.w).draws (nk k), os := s.os } :=
    d_write (t' := s.toks + (nestedKind X.prog X.w).draws (nk k)) I (by rw [e]; trivial) sb ⟨o, h1⟩ (dcn_ok hd)
  have st : Stp H M (upd H p (.ext (dcnP X.w p (storedH xs (nk k) a x)))) (um M p (.dcn (dput ks k w))) := Stp.mut hm
  have rn2 : RelN (kwX X) (upd H p (.ext (dcnP X.w p (storedH xs (nk k) a x)))) (storedH xs (nk k) a x) (dput ks k w) := RelN.put (Paired.mapR rn fun p q x => ⟨⟨x.1.1, x.1.2.1, x.1.2.2.stp S st⟩, x.2.elim fun v y => ⟨v, y.1, y.2.stp S st⟩⟩) hk (r.stp S st) ry (rw'.stp S st)
  have hz2 : (storedH xs (nk k) a x).length ≤ sizeLine := by
    have h1 : (dput ks k w).length ≤ ks.length + 1 := by
      unfold dput
      split
      · rw [List.length_map]; omega
      · rw [List.length_append]; exact Nat.le_refl _
    rw [rn2.len]
    have := lim_line
    omega
  exact q _ _ I2 st (S.mut (m := .dcn (dput ks k w)) hm rfl ⟨_, upd_same, rn2, hs, hz2⟩)
/-- {} -/
def tDNewN (X : Cx) : TE := fun _ H Q => ∀ p, H p = none → (p == sysModules) = false → Q (.ref p) (upd H p (.ext (dcnP X.w p [])))
theorem pe_dnewN {pos : Pos} : PE X (.Dict [] [] pos) (tDNewN X) := by
  refine ⟨fun pins s σ H Q I h => wpAny_Dict_empty ?_⟩
  obtain ⟨_, hs, _⟩ := dt_empty (P := X.prog) (w := X.w) (H := H) s.heap I.big
  have d : dcnP X.w s.heap.objs.size [] (s.heap.push { cls := .type "dict", data := .dict #[] }) := ⟨_, #[], _, Heap.get?_push_size _ rfl, ⟨rfl, rfl, rfl⟩, rfl, rfl, List.nodup_nil⟩
  refine ⟨.ref s.heap.objs.size, upd H s.heap.objs.size (.ext (dcnP X.w s.heap.objs.size [])), I.laid (t' := s.toks) (fun b o e => Heap.get?_push_of_some _ e) (Nat.le_refl _) (dcn_ok d), rfl, h _ (I.hok.fresh (Nat.le_refl _)) hs⟩
end
end Pl

set_option maxHeartbeats 4000000
namespace Pl
open PySem L2
/-- a comparison: the value is a bool -/
def asB (f : U → U → Hm → (Bool → Hm → Prop) → Prop) : U → U → Hm → QU → Prop := fun a b M Q => f a b M fun k M => Q (.bl k) M
section
variable {X : Cx}
theorem eq_case {a b : U} {M : Hm} {Q : Bool → Hm → Prop} (h : eqW a b M Q) :
    (∃ i j, a = .bl i ∧ b = .bl j ∧ Q (i == j) M) ∨ (∃ i j, a = .int i ∧ b = .int j ∧ Q (decide (i = j)) M) ∨ (∃ i j, a = .str i ∧ b = .str j ∧ Q (decide (i = j)) M) ∨
    (∃ p q us ws, a = .ref p ∧ b = .ref q ∧ M p = some (.lst us) ∧ M q = some (.lst ws) ∧ okL us = true ∧ okL ws = true ∧ Q (decide (us = ws)) M) ∨ (∃ l m, a = .tup l ∧ b = .dtp m ∧ okU (.tup l) = true ∧ okU (.tup m) = true ∧ Q (decide (l = m)) M) ∨ (okU a = true ∧ okU b = true ∧ Q (decide (a = b)) M) := by
  unfold eqW at h
  split at h
  · exact .inl ⟨_, _, rfl, rfl, h⟩
  · exact .inr (.inl ⟨_, _, rfl, rfl, h⟩)
  · exact .inr (.inr (.inl ⟨_, _, rfl, rfl, h⟩))
  · obtain ⟨us, ws, h1, h2, h3, h4, h5⟩ := h
    exact .inr (.inr (.inr (.inl ⟨_, _, us, ws, rfl, rfl, h1, h2, h3, h4, h5⟩)))
  · obtain ⟨h1, h2, h3⟩ := h
    exact .inr (.inr (.inr (.inr (.inl ⟨_, _, rfl, rfl, h1, h2, h3⟩))))
  · exact .inr (.inr (.inr (.inr (.inr h))))
theorem okL_dp {K : Kw} {H : Hp} {M : Hm} (S : Sim K H M) {p : Addr} {us : List U} (h : M p = some (.lst us)) (ok : okL us = true) : Dp K H (.ref p) (.list (pdL us)) := by
  obtain ⟨vs, e, r⟩ := S p _ h
  exact .lst (.inl (.inl e)) (ok_dpL 59 us vs (okL_all ok) r)
theorem ok_dpT {K : Kw} {H : Hp} {v : V} {l : List U} (h : okU (.tup l) = true) (r : Rel K H v (.dtp l)) : Dp K H v (pd (.tup l)) := by
  cases r with
  | dtp t rl => exact .tup t.sq (ok_dpL 59 l _ (by simpa [okU, U.ok] using h) rl)
theorem op_eqS (hu : X.A.units + 64 < cLine) : OpR X (compareOp .Eq) (R2s (kwX X) (asB eqW)) := by
  intro pins s σ H x y v u Q I rx ry h
  obtain ⟨a, b, M, Qu, S, ra, rb, hf, c⟩ := h
  rcases eq_case hf with ⟨i, j, rfl, rfl, q⟩ | ⟨i, j, rfl, rfl, q⟩ | ⟨i, j, rfl, rfl, q⟩ | ⟨p, p', us, ws, rfl, rfl, h1, h2, h3, h4, q⟩ | ⟨l, m, rfl, rfl, h1, h2, q⟩ | ⟨h1, h2, q⟩
  · cases ra; cases rb
    refine op_eq pins s σ H _ _ v u Q I rx ry ⟨rfl, ?_⟩
    rw [dec_bl]
    exact c.at_ S (.bl _) q
  · cases ra; cases rb
    refine op_eq pins s σ H _ _ v u Q I rx ry ⟨rfl, ?_⟩
    rw [dec_int, Bool.beq_eq_decide_eq]
    exact c.at_ S (.bl _) q
  · cases ra; cases rb
    refine op_eq pins s σ H _ _ v u Q I rx ry ⟨rfl, ?_⟩
    rw [dec_str, Bool.beq_eq_decide_eq]
    exact c.at_ S (.bl _) q
  · cases ra; cases rb
    refine op_eqD hu pins s σ H _ _ v u Q I rx ry ⟨_, _, okL_dp S h1 h3, okL_dp S h2 h4, okL_shaped h3, okL_shaped h4, ?_⟩
    have e : PyData.eqv (.list (pdL us)) (.list (pdL ws)) = decide (us = ws) := by
      rw [PyData.eqv]
      exact ok_eqvL 59 us 59 ws (okL_all h3) (okL_all h4)
    rw [e]
    exact c.at_ S (.bl _) q
  · refine op_eqD hu pins s σ H _ _ v u Q I rx ry ⟨_, _, ok_dp 60 _ x h1 ra, ok_dpT h2 rb, ok_shaped h1 (by decide), ok_shaped h2 (by decide), ?_⟩
    rw [ok_eqv 60 _ 60 _ h1 h2, decide_eq_decide.mpr (show U.tup l = U.tup m ↔ l = m from ⟨fun e => by injection e, fun e => by rw [e]⟩)]
    exact c.at_ S (.bl _) q
  · refine op_eqD hu pins s σ H _ _ v u Q I rx ry ⟨_, _, ok_dp 60 a x h1 ra, ok_dp 60 b y h2 rb, ok_shaped h1 (by decide), ok_shaped h2 (by decide), ?_⟩
    rw [ok_eqv 60 a 60 b h1 h2]
    exact c.at_ S (.bl _) q
theorem op_neS (hu : X.A.units + 64 < cLine) : OpR X (compareOp .NotEq) (R2s (kwX X) (asB fun x y M Q => eqW x y M fun b M => Q (!b) M)) := by
  intro pins s σ H x y v u Q I rx ry h
  obtain ⟨a, b, M, Qu, S, ra, rb, hf, c⟩ := h
  have hf : eqW a b M fun b M => Qu (.bl (!b)) M := hf
  rcases eq_case hf with ⟨i, j, rfl, rfl, q⟩ | ⟨i, j, rfl, rfl, q⟩ | ⟨i, j, rfl, rfl, q⟩ | ⟨p, p', us, ws, rfl, rfl, h1, h2, h3, h4, q⟩ | ⟨l, m, rfl, rfl, h1, h2, q⟩ | ⟨h1, h2, q⟩
  · cases ra; cases rb
    refine op_ne pins s σ H _ _ v u Q I rx ry ⟨rfl, ?_⟩
    rw [dec_bl]
    exact c.at_ S (.bl _) q
  · cases ra; cases rb
    refine op_ne pins s σ H _ _ v u Q I rx ry ⟨rfl, ?_⟩
    rw [dec_int, Bool.beq_eq_decide_eq]
    exact c.at_ S (.bl _) q
  · cases ra; cases rb
    refine op_ne pins s σ H _ _ v u Q I rx ry ⟨rfl, ?_⟩
    rw [dec_str, Bool.beq_eq_decide_eq]
    exact c.at_ S (.bl _) q
  · cases ra; cases rb
    refine op_neD hu pins s σ H _ _ v u Q I rx ry ⟨_, _, okL_dp S h1 h3, okL_dp S h2 h4, okL_shaped h3, okL_shaped h4, ?_⟩
    have e : PyData.eqv (.list (pdL us)) (.list (pdL ws)) = decide (us = ws) := by
      rw [PyData.eqv]
      exact ok_eqvL 59 us 59 ws (okL_all h3) (okL_all h4)
    rw [e]
    exact c.at_ S (.bl _) q
  · refine op_neD hu pins s σ H _ _ v u Q I rx ry ⟨_, _, ok_dp 60 _ x h1 ra, ok_dpT h2 rb, ok_shaped h1 (by decide), ok_shaped h2 (by decide), ?_⟩
    rw [ok_eqv 60 _ 60 _ h1 h2, decide_eq_decide.mpr (show U.tup l = U.tup m ↔ l = m from ⟨fun e => by injection e, fun e => by rw [e]⟩)]
    exact c.at_ S (.bl _) q
  · refine op_neD hu pins s σ H _ _ v u Q I rx ry ⟨_, _, ok_dp 60 a x h1 ra, ok_dp 60 b y h2 rb, ok_shaped h1 (by decide), ok_shaped h2 (by decide), ?_⟩
    rw [ok_eqv 60 a 60 b h1 h2]
    exact c.at_ S (.bl _) q
def rInT (K : Kw) : R2 := fun x y H Q => ∃ d ds, Dp K H x d ∧ Dp K H y (.tuple ds) ∧ SeqAt.shaped d = true ∧ SeqAt.shaped (.tuple ds) = true ∧ Q (.bl (ds.any fun z => PyData.eqv z d)) H
def rNotInT (K : Kw) : R2 := fun x y H Q => ∃ d ds, Dp K H x d ∧ Dp K H y (.tuple ds) ∧ SeqAt.shaped d = true ∧ SeqAt.shaped (.tuple ds) = true ∧ Q (.bl (!ds.any fun z => PyData.eqv z d)) H
theorem op_inT (hu : X.A.units + 65 < cLine) : OpR X (compareOp .In) (rInT (kwX X)) := by
  intro pins s σ H x y v u Q I rx ry h
  obtain ⟨d, ds, hd, he, sd, se, q⟩ := h
  obtain ⟨as, r1⟩ := Dp.reads I d x v hd rx
  obtain ⟨bs, r2⟩ := Dp.reads I (.tuple ds) y u he ry
  exact SeqAt.in_tuple_reads r2 r1 (SeqAt.canLay_of_shaped se) (SeqAt.canLay_of_shaped sd) (PyProof.Rows.room_in_shaped sd hu) ⟨.bl _, H, I, rfl, q⟩
theorem op_notInT (hu : X.A.units + 65 < cLine) : OpR X (compareOp .NotIn) (rNotInT (kwX X)) := by
  intro pins s σ H x y v u Q I rx ry h
  obtain ⟨d, ds, hd, he, sd, se, q⟩ := h
  obtain ⟨as, r1⟩ := Dp.reads I d x v hd rx
  obtain ⟨bs, r2⟩ := Dp.reads I (.tuple ds) y u he ry
  exact SeqAt.notIn_tuple_reads r2 r1 (SeqAt.canLay_of_shaped se) (SeqAt.canLay_of_shaped sd) (PyProof.Rows.room_in_shaped sd hu) ⟨.bl _, H, I, rfl, q⟩
theorem op_inS (hu : X.A.units + 66 < cLine) : OpR X (compareOp .In) (R2s (kwX X) (asB (inW false))) := by
  intro pins s σ H x y v u Q I rx ry h
  obtain ⟨a, b, M, Qu, S, ra, rb, hf, c⟩ := h
  have hf : inW false a b M fun b M => Qu (.bl b) M := hf
  unfold inW at hf
  split at hf
  · obtain ⟨h2, h3, q⟩ := hf
    refine op_inT (by omega) pins s σ H _ _ v u Q I rx ry ⟨_, _, ok_dp 60 a x h2 ra, ok_dp 60 (.tup _) y (show okU (.tup _) = true from h3) rb, ok_shaped h2 (by decide), ok_shaped (show okU (.tup _) = true from h3) (by decide), ?_⟩
    rw [any_eqv h2 _ (okL_all h3)]
    exact c.at_ S (.bl _) q
  · obtain ⟨⟨h3, h4⟩, q⟩ := hf
    cases rb with
    | dtp t r =>
      obtain ⟨ks, e1, e2⟩ := isKeys_of h3 r
      obtain ⟨k, e3, e4⟩ := isKey_of h4 ra
      subst e1 e2 e3 e4
      refine op_in_seq pins s σ H _ _ v u Q I rx ry ⟨_, _, rfl, .inr t.sq, by cases k <;> rfl, flat_keys ks, ?_⟩
      rw [if_neg (by decide), relL_in]
      rw [if_neg (by decide)] at q
      exact c.at_ S (.bl _) q
  · rcases hf with ⟨us, h1, h2, h3, q⟩ | ⟨z, t, ks, h1, h2, q⟩ | ⟨ks, h1, h2, q⟩
    · cases rb
      refine op_inD (by omega) pins s σ H _ _ v u Q I rx ry ⟨_, _, ok_dp 60 a x h2 ra, okL_dp S h1 h3, ok_shaped h2 (by decide), okL_shaped h3, ?_⟩
      rw [any_eqv h2 us (okL_all h3)]
      exact c.at_ S (.bl _) q
    · obtain ⟨o, g, q2⟩ := dget_of S h1 h2 ra
      cases rb
      obtain rfl : u = Value.ref _ := ry
      have e : o.isSome = (dfind ks a).isSome := by
        rcases q2 with ⟨e1, e2⟩ | ⟨_, _, e1, e2, _⟩ <;> rw [e1, e2] <;> rfl
      refine d_in (by omega) I g rx fun s' I' => ⟨.bl _, H, I', rfl, ?_⟩
      rw [e]
      exact c.at_ S (.bl _) q
    · cases rb
      obtain rfl : u = Value.ref _ := ry
      exact n_in (by omega) I S h1 h2 ra rx fun s' I' => ⟨.bl _, H, I', rfl, c.at_ S (.bl _) q⟩
  · exact hf.elim
theorem op_notinS (hu : X.A.units + 66 < cLine) : OpR X (compareOp .NotIn) (R2s (kwX X) (asB (inW true))) := by
  intro pins s σ H x y v u Q I rx ry h
  obtain ⟨a, b, M, Qu, S, ra, rb, hf, c⟩ := h
  have hf : inW true a b M fun b M => Qu (.bl b) M := hf
  unfold inW at hf
  split at hf
  · obtain ⟨h2, h3, q⟩ := hf
    refine op_notInT (by omega) pins s σ H _ _ v u Q I rx ry ⟨_, _, ok_dp 60 a x h2 ra, ok_dp 60 (.tup _) y (show okU (.tup _) = true from h3) rb, ok_shaped h2 (by decide), ok_shaped (show okU (.tup _) = true from h3) (by decide), ?_⟩
    rw [any_eqv h2 _ (okL_all h3)]
    exact c.at_ S (.bl _) q
  · obtain ⟨⟨h3, h4⟩, q⟩ := hf
    cases rb with
    | dtp t r =>
      obtain ⟨ks, e1, e2⟩ := isKeys_of h3 r
      obtain ⟨k, e3, e4⟩ := isKey_of h4 ra
      subst e1 e2 e3 e4
      refine op_notIn_seq pins s σ H _ _ v u Q I rx ry ⟨_, _, rfl, .inr t.sq, by cases k <;> rfl, flat_keys ks, ?_⟩
      rw [if_pos rfl, relL_in]
      rw [if_pos rfl] at q
      exact c.at_ S (.bl _) q
  · rcases hf with ⟨us, h1, h2, h3, q⟩ | ⟨z, t, ks, h1, h2, q⟩ | ⟨ks, h1, h2, q⟩
    · cases rb
      refine op_notInD (by omega) pins s σ H _ _ v u Q I rx ry ⟨_, _, ok_dp 60 a x h2 ra, okL_dp S h1 h3, ok_shaped h2 (by decide), okL_shaped h3, ?_⟩
      rw [any_eqv h2 us (okL_all h3)]
      exact c.at_ S (.bl _) q
    · obtain ⟨o, g, q2⟩ := dget_of S h1 h2 ra
      cases rb
      obtain rfl : u = Value.ref _ := ry
      have e : o.isSome = (dfind ks a).isSome := by
        rcases q2 with ⟨e1, e2⟩ | ⟨_, _, e1, e2, _⟩ <;> rw [e1, e2] <;> rfl
      refine d_notIn (by omega) I g rx fun s' I' => ⟨.bl _, H, I', rfl, ?_⟩
      rw [e]
      exact c.at_ S (.bl _) q
    · cases rb
      obtain rfl : u = Value.ref _ := ry
      exact n_notIn (by omega) I S h1 h2 ra rx fun s' I' => ⟨.bl _, H, I', rfl, c.at_ S (.bl _) q⟩
  · exact hf.elim
theorem op_cmpS (hu : X.A.units + 66 < cLine) (op : Cop) : OpR X (compareOp (copOf op)) (R2s (kwX X) (asB (cmpW op))) := by
  cases op with
  | eq => exact op_eqS (by omega)
  | ne => exact op_neS (by omega)
  | isin => exact op_inS hu
  | notin => exact op_notinS hu
  | lt =>
    intro pins s σ H x y v u Q I rx ry h
    obtain ⟨a, b, M, Qu, S, ra, rb, hf, c⟩ := h
    unfold asB cmpW at hf
    simp only at hf
    split at hf
    · cases ra; cases rb; exact op_lt pins s σ H _ _ v u Q I rx ry ⟨_, _, rfl, rfl, c.at_ S (.bl _) hf⟩
    · exact hf.elim
  | le =>
    intro pins s σ H x y v u Q I rx ry h
    obtain ⟨a, b, M, Qu, S, ra, rb, hf, c⟩ := h
    unfold asB cmpW at hf
    simp only at hf
    split at hf
    · cases ra; cases rb; exact op_le pins s σ H _ _ v u Q I rx ry ⟨_, _, rfl, rfl, c.at_ S (.bl _) hf⟩
    · exact hf.elim
  | gt =>
    intro pins s σ H x y v u Q I rx ry h
    obtain ⟨a, b, M, Qu, S, ra, rb, hf, c⟩ := h
    unfold asB cmpW at hf
    simp only at hf
    split at hf
    · cases ra; cases rb; exact op_gt pins s σ H _ _ v u Q I rx ry ⟨_, _, rfl, rfl, c.at_ S (.bl _) hf⟩
    · exact hf.elim
  | ge =>
    intro pins s σ H x y v u Q I rx ry h
    obtain ⟨a, b, M, Qu, S, ra, rb, hf, c⟩ := h
    unfold asB cmpW at hf
    simp only at hf
    split at hf
    · cases ra; cases rb; exact op_ge pins s σ H _ _ v u Q I rx ry ⟨_, _, rfl, rfl, c.at_ S (.bl _) hf⟩
    · exact hf.elim

/-! ### truth -/
def TrS (K : Kw) : V → Hp → (Bool → Hp → Prop) → Prop := fun x H Q => ∃ a M Qu, Sim K H M ∧ Rel K H x a ∧ truW a M Qu ∧ ContB K H M Qu Q
theorem tru_of {K : Kw} {x : V} {H : Hp} {Q : Bool → Hp → Prop} (h : TrS K x H Q) : ∃ k, TruV K x H k ∧ Q k H := by
  obtain ⟨a, M, Qu, S, r, t, c⟩ := h
  unfold truW at t
  split at t
  · cases r; exact ⟨_, rfl, c _ _ _ (Stp.refl H M) S t⟩
  · cases r; exact ⟨_, rfl, c _ _ _ (Stp.refl H M) S t⟩
  · rename_i z
    cases r
    refine ⟨_, ⟨le_line t.1, rfl⟩, ?_⟩
    have e : ((z.length : Int) != 0) = (z.length != 0) := by
      by_cases h : z.length = 0
      · rw [h]; rfl
      · have h2 : (z.length : Int) ≠ 0 := by omega
        rw [bne_iff_ne.mpr h2, bne_iff_ne.mpr h]
    rw [e]
    exact c _ _ _ (Stp.refl H M) S t.2
  · cases r; exact ⟨_, rfl, c _ _ _ (Stp.refl H M) S t⟩
  · cases r with
    | tup t1 r1 =>
      refine ⟨_, .inr (.inl ⟨_, t1.sq, rfl⟩), ?_⟩
      rw [r1.isEmpty]
      exact c _ _ _ (Stp.refl H M) S t
  · rename_i p
    cases r
    rcases t with ⟨us, h1, q⟩ | ⟨ks, h1, q⟩
    · obtain ⟨vs, e, r1⟩ := S _ _ h1
      refine ⟨_, .inl ⟨_, .inl (.inl e), rfl⟩, ?_⟩
      rw [r1.isEmpty]
      exact c _ _ _ (Stp.refl H M) S q
    · obtain ⟨kvs, e, r1⟩ := S _ _ h1
      refine ⟨_, .inr (.inr ⟨kvs, e, rfl⟩), ?_⟩
      have e2 : kvs.isEmpty = ks.isEmpty := by cases r1 <;> rfl
      rw [e2]
      exact c _ _ _ (Stp.refl H M) S q
  · exact t.elim
  · cases r with
    | dtp t1 r1 =>
      refine ⟨_, .inr (.inl ⟨_, t1.sq, rfl⟩), ?_⟩
      rw [r1.isEmpty]
      exact c _ _ _ (Stp.refl H M) S t

/-! ### subscripts -/
theorem ix_pure {K : Kw} {H : Hp} {vs : List V} {us : List U} (r : RelL K H vs us) {j : Int} {u : U} (h : atI us j = some u) : ∃ v, atI vs j = some v ∧ Rel K H v u := by
  unfold atI at h ⊢
  rw [r.length]
  cases e : ixN us.length j with
  | none => rw [e] at h; cases h
  | some k =>
    rw [e] at h
    exact r.get h
theorem ix_S (hu : X.A.units + 66 < cLine) : IxR X (R2s (kwX X) ixW) := by
  intro vl sl pins s σ H x y v u Q I rx ry h hs
  obtain ⟨a, b, M, Qu, S, ra, rb, hf, c⟩ := h
  unfold ixW at hf
  split at hf
  · obtain ⟨j, w, rfl, e, q⟩ := hf
    cases rb
    cases ra with
    | dtp t r =>
      obtain ⟨v1, e1, r1⟩ := ix_pure r e
      exact ix_tup vl sl pins s σ H _ _ v u Q I rx ry ⟨_, _, _, _, rfl, rfl, t.sq, e1, c.at_ S r1 q⟩ hs
  · obtain ⟨j, w, rfl, e, q⟩ := hf
    cases rb
    cases ra with
    | tup t r =>
      obtain ⟨v1, e1, r1⟩ := ix_pure r e
      exact ix_tup vl sl pins s σ H _ _ v u Q I rx ry ⟨_, _, _, _, rfl, rfl, t.sq, e1, c.at_ S r1 q⟩ hs
  · rcases hf with ⟨us, j, w, h1, rfl, e, q⟩ | ⟨z, t, ks, w, h1, h2, e, q⟩ | ⟨ks, w, h1, h2, e, q⟩
    · cases rb
      cases ra
      obtain ⟨vs, e2, r⟩ := S _ _ h1
      obtain ⟨v1, e1, r1⟩ := ix_pure r e
      exact ix_list vl sl pins s σ H _ _ v u Q I rx ry ⟨_, _, _, _, rfl, rfl, .inl (.inl e2), e1, c.at_ S r1 q⟩ hs
    · obtain ⟨o, g, q2⟩ := dget_of S h1 h2 rb
      cases ra
      obtain rfl : v = Value.ref _ := rx
      rcases q2 with ⟨_, e2⟩ | ⟨v1, u1, e1, e2, r1⟩
      · rw [e] at e2; cases e2
      · rw [e] at e2
        cases e2
        subst e1
        exact PyProof.Rows.tail_any (dict_typeIs I g) PySem.F.slot_dict_getitem.lookup (d_getItem (by omega) I g ry fun w' s' I' rw' => ⟨_, H, I', rw', c.at_ S r1 q⟩) hs
    · cases ra
      obtain rfl : v = Value.ref _ := rx
      exact PyProof.Rows.tail_any (dcn_typeIs I S h1) PySem.F.slot_dict_getitem.lookup (n_getItem (by omega) I S h1 h2 rb ry e fun y y' s' I' ry' r' => ⟨y, H, I', ry', c.at_ S r' q⟩) hs
  · obtain ⟨j, cc, rfl, hl, e, q⟩ := hf
    cases ra; cases rb
    exact ix_str vl sl pins s σ H _ _ v u Q I rx ry ⟨_, _, _, rfl, rfl, le_line hl, e, c.at_ S (.str _) q⟩ hs
  · exact hf.elim
end
end Pl

set_option maxHeartbeats 400000
/-! sorted, over data -/
namespace Pl
open PySem L2
mutual
theorem reads_pd : ∀ (n : Nat) (u : U) (h : Heap) (v : Value) (as : List Addr), u.ok n = true → Reads h v (pd u) as → as = []
  | _, .non, _, _, _, _, r => by unfold pd at r; cases r; rfl
  | _, .int i, _, _, _, _, r => by unfold pd at r; cases r; rfl
  | _, .str x, _, _, _, _, r => by unfold pd at r; cases r; rfl
  | n + 1, .tup l, h, _, _, ok, r => by
    unfold pd at r
    cases r with
    | tuple a b c d => exact reads_pdL n l h _ _ (by simpa [U.ok] using ok) d
  | 0, .tup l, _, _, _, ok, _ => by simp [U.ok] at ok
  | _, .bl _, _, _, _, ok, _ => by simp [U.ok] at ok
  | _, .ref _, _, _, _, ok, _ => by simp [U.ok] at ok
  | _, .rol _, _, _, _, ok, _ => by simp [U.ok] at ok
  | _, .dtp _, _, _, _, ok, _ => by simp [U.ok] at ok
theorem reads_pdL : ∀ (n : Nat) (l : List U) (h : Heap) (vs : List Value) (as : List Addr), (∀ x ∈ l, x.ok n = true) → ReadsAll h vs (pdL l) as → as = []
  | _, [], _, _, _, _, r => by unfold pdL at r; cases r; rfl
  | n, x :: xs, h, _, _, ok, r => by
    unfold pdL at r
    cases r with
    | cons a b => rw [reads_pd n x h _ _ (ok x List.mem_cons_self) a, reads_pdL n xs h _ _ (fun y hy => ok y (List.mem_cons_of_mem _ hy)) b]; rfl
end
theorem relK_keys {K : Kw} {H : Hp} : ∀ {kvs : List (Key × V)} {ks : List (U × U)}, RelK K H kvs ks → RelL K H (kvs.map fun kv => kV kv.1) (ks.map (·.1))
  | [], _, r => by unfold RelK at r; cases r; exact .nil
  | (k, v) :: kvs, _, r => by
    unfold RelK at r
    cases r with
    | @cons p q ps qs a b =>
      rw [List.map_cons, List.map_cons]
      refine .cons ?_ (relK_keys b)
      rw [a.1]
      cases k with
      | inl i => exact .int i
      | inr x => exact .str x
theorem relL_keys {K : Kw} {H : Hp} : ∀ k : List Key, RelL K H (k.map kV) (k.map keyU)
  | [] => .nil
  | .inl i :: r => .cons (.int i) (relL_keys r)
  | .inr i :: r => .cons (.str i) (relL_keys r)
/-- a call by values -/
def CRs (K : Kw) (g : List U → Hm → QU → Prop) : List V → Hp → VK → Prop := fun xs H Q => ∃ us M Qu, Sim K H M ∧ RelL K H xs us ∧ g us M Qu ∧ Cont K H M Qu Q
theorem paired_get {α β : Type} {F : α → β → Prop} : ∀ {as : List α} {bs : List β} {i : Nat} {a : α}, Paired F as bs → as[i]? = some a → ∃ b, bs[i]? = some b ∧ F a b
  | _, _, i, _, .nil, h => by simp at h
  | _, _, 0, _, .cons q _, h => ⟨_, rfl, by simp at h; rw [← h]; exact q⟩
  | _, _, i + 1, _, .cons _ r, h => by
    obtain ⟨b, e, q⟩ := paired_get r (by simpa using h)
    exact ⟨b, by simpa using e, q⟩
section
variable {X : Cx} {pins : List (Addr × Obj)} {σ : L2.St} {H : Hp} {s : Shared} {Q : VK} {M : Hm} {Qu : QU}
theorem each_of {us : List Value} {vs : List V} (r : Vals vs us) : ∀ {ws : List U}, vs.length = ws.length → W.EachIs (fun u (b : V × U) => RelV b.1 u) us (vs.zip ws) := by
  induction r with
  | nil => intro ws h; exact .nil
  | cons a _ ih =>
    intro ws h
    cases ws with
    | nil => cases h
    | cons w ws => exact .cons a (ih (by simpa using h))
theorem each_rev {us : List Value} {bs : List (V × U)} (r : W.EachIs (fun u (b : V × U) => RelV b.1 u) us bs) : Vals (bs.map (·.1)) us := by
  induction r with
  | nil => exact .nil
  | cons a _ ih => exact .cons a ih
theorem relL_zip {K : Kw} : ∀ {vs : List V} {ws : List U}, RelL K H vs ws → ∀ b ∈ vs.zip ws, Rel K H b.1 b.2 := by
  intro vs ws r
  induction vs generalizing ws with
  | nil => intro b hb; cases hb
  | cons v vs ih =>
    cases r with
    | cons a r =>
      intro b hb
      rw [List.zip_cons_cons] at hb
      rcases List.mem_cons.mp hb with e | hb
      · subst e; exact a
      · exact ih r b hb
theorem relL_of_all {K : Kw} : ∀ {bs : List (V × U)}, (∀ b ∈ bs, Rel K H b.1 b.2) → RelL K H (bs.map (·.1)) (bs.map (·.2))
  | [], _ => .nil
  | b :: bs, h => .cons (h b List.mem_cons_self) (relL_of_all fun c hc => h c (List.mem_cons_of_mem _ hc))
theorem each_reads (I : L2.Inv X pins σ H s) {h' : Heap} (hk : ∀ b o, s.heap.get? b = some o → h'.get? b = some o) (a0 : Addr) {us : List Value} {bs : List (V × U)} (e1 : W.EachIs (fun u (b : V × U) => RelV b.1 u) us bs) (dp : ∀ b ∈ bs, Rel (kwX X) H b.1 b.2) (okz : ∀ b ∈ bs, b.2.ok 59 = true) :
    W.EachIs (fun v (b : V × U) => ∃ as, Reads h' v (pd b.2) as ∧ ¬ a0 ∈ as) us bs := by
  induction e1 with
  | nil => exact .nil
  | @cons u b us' bs' a _ ih =>
    refine .cons ?_ (ih (fun b hb => dp b (List.mem_cons_of_mem _ hb)) (fun b hb => okz b (List.mem_cons_of_mem _ hb)))
    have hd := ok_dp 59 b.2 b.1 (okz b List.mem_cons_self) (dp b List.mem_cons_self)
    obtain ⟨as, hr⟩ := hd.reads I _ _ _ a
    have h0 := reads_pd 59 b.2 _ _ _ (okz b List.mem_cons_self) hr
    subst h0
    exact ⟨[], PyProof.Rows.Reads.keeps hk hr, List.not_mem_nil⟩
theorem sort_tail (I : L2.Inv X pins σ H s) (hu : X.A.units + 66 < cLine) (S : Sim (kwX X) H M) (c : Cont (kwX X) H M Qu Q) {vs : List V} {us : List Value} {ws : List U} (rv : Vals vs us) (rl : RelL (kwX X) H vs ws) (ok : sortOk ws) (hq : ∀ a, M a = none → Qu (.ref a) (um M a (.lst (sortU ws))))
    {h1 : Heap} {tk : Nat} (hk : ∀ (b : Addr) (u : Obj), s.heap.get? b = some u → h1.get? b = some u) :
    wpAny (model X.prog X.w) X.A.in1 (newList us >>= fun l => holding [l] (call (.builtin "list.sort") [l]) >>= fun _ => PySem.ret l) (fun fin s' => ∃ v, fin = Fin.done (Flow.ret v) ∧ EP X pins σ Q v s') X.xe ⟨h1, s.gens, s.drawn, tk, s.os⟩ := by
  obtain ⟨ok1, ok2, ok3, ok4⟩ := ok
  have okA : ∀ x ∈ ws, x.ok 59 = true := List.all_eq_true.mp ok1
  have I1 : L2.Inv X pins σ H ⟨h1, s.gens, s.drawn, tk, s.os⟩ := I.kept hk
  have el : vs.length = ws.length := rl.length
  have e1 : W.EachIs (fun u (b : V × U) => RelV b.1 u) us (vs.zip ws) := each_of rv el
  have eu : us.length = ws.length := by rw [e1.length, List.length_zip, el, Nat.min_self]
  have esnd : (vs.zip ws).map (fun b => pd b.2) = ws.map pd := by
    rw [show (fun b : V × U => pd b.2) = pd ∘ Prod.snd from rfl, ← List.map_map, List.map_snd_zip (by omega)]
  have hL : us.length ≤ sizeLine := by rw [eu, sizeLine_eq]; unfold LIM at ok4; omega
  refine wpAny_bind (wpAny_newList ?_ hL)
  have hoL : (h1.push (PyProof.Rows.seqObj "list" us.toArray 0)).get? h1.objs.size = some (PyProof.Rows.seqObj "list" us.toArray 0) := Heap.get?_push_size h1 rfl
  refine wpAny_bind (wpAny_holding (W.list_sort_data (n := 0) (bs := vs.zip ws) (enc := fun b => pd b.2) (R := fun u b => RelV b.1 u) hoL e1 ?_ (by rw [esnd]; exact ok2) (by rw [esnd]; exact ok3) (by rw [← e1.length]; exact hL) ?_ ?_))
  · exact each_reads I1 (fun b o e => Heap.get?_push_of_some _ e) _ e1 (relL_zip rl) (fun b hb => okA _ (List.of_mem_zip hb).2)
  · intro b hb
    have := (ok_lay 59 b.2 (okA _ (List.of_mem_zip hb).2)).2
    show X.A.units + 1 + 1 + _ < _
    omega
  · intro out hlen heach
    obtain ⟨e', he'⟩ := PyProof.Rows.sortedHeap_at (out := out.toArray) hoL
    have hs : ((vs.zip ws).mergeSort (W.dataLe false fun b => pd b.2)).map Prod.snd = sortU ws := by
      have := W.sort_maps (r := W.dataLe false fun b : V × U => pd b.2) (s := W.dataLe false pd) Prod.snd (l := vs.zip ws) (fun a _ b _ => rfl)
      rw [this, List.map_snd_zip (by omega)]
      rfl
    have hrel : RelL (kwX X) H (((vs.zip ws).mergeSort (W.dataLe false fun b => pd b.2)).map Prod.fst) (sortU ws) := by
      rw [← hs]
      exact relL_of_all fun b hb => relL_zip rl b (List.mem_mergeSort.mp hb)
    have hout := each_rev heach
    refine wpAny_pure ⟨_, rfl, V.ref h1.objs.size, upd H h1.objs.size (.lst (((vs.zip ws).mergeSort (W.dataLe false fun b => pd b.2)).map Prod.fst)), ?_, rfl, c.lst S hrel hq (I1.hok.fresh (Nat.le_refl _))⟩
    refine I1.laid (fun b u e => ?_) (Nat.le_refl _) ⟨?_, out, e', hout, he'⟩
    · have hb := Heap.lt_size e
      rw [PyProof.Rows.sortedHeap_old (Nat.ne_of_lt hb) (by rw [PyProof.Rows.size_push']; exact Nat.lt_succ_of_lt hb)]
      exact Heap.get?_push_of_some _ e
    · rw [hrel.length]
      unfold sortU
      rw [List.length_mergeSort, ← eu]
      exact hL
theorem vals1R {K : Kw} {H : Hp} {xs : List V} {u : U} (r : RelL K H xs [u]) : ∃ v, xs = [v] ∧ Rel K H v u := by
  cases r with
  | cons a b => cases b; exact ⟨_, rfl, a⟩
theorem vals_pt : ∀ {as : List V} {us : List Value}, as.length = us.length → (∀ (j : Nat) (a : V) (u : Value), as[j]? = some a → us[j]? = some u → RelV a u) → Vals as us
  | [], [], _, _ => .nil
  | a :: as, u :: us, h, p => .cons (p 0 a u rfl rfl) (vals_pt (by simpa using h) fun j a' u' h1 h2 => p (j + 1) a' u' (by simpa using h1) (by simpa using h2))
  | [], _ :: _, h, _ => by cases h
  | _ :: _, [], h, _ => by cases h
theorem relT_keys {K : Kw} {H : Hp} : ∀ {kvs : List (List Key × V)} {xs : List (List Key × Addr × Value)} {ks : List (U × U)}, KT H kvs xs → RelT K H kvs ks → RelL K H (xs.map fun x => V.ref x.2.1) (ks.map (·.1))
  | [], _, _, k, r => by unfold RelT at r; cases k; cases r; exact .nil
  | (k, v) :: kvs, _, _, kt, r => by
    unfold RelT at r
    cases kt with
    | cons a b => cases r with
      | @cons p q ps qs c d =>
        rw [List.map_cons, List.map_cons]
        refine .cons ?_ (relT_keys b d)
        rw [c.1]
        exact .tup (.inl a.2.1) (relL_keys k)
theorem relN_keys {K : Kw} {H : Hp} : ∀ {xs : List NEnt} {ks : List (U × U)}, RelN K H xs ks → RelL K H (xs.map fun x => V.ref x.2.1) (ks.map (·.1))
  | [], _, r => by cases r; exact .nil
  | x :: xs, _, r => by
    cases r with
    | cons a b => exact .cons a.1.2.2 (relN_keys b)
theorem cr_sortedS (hc : X.calm = true) (hu : X.A.units + 66 < cLine) : CallR X (.builtin "sorted") (CRs (kwX X) (bltW .sorted)) := by
  intro pins s σ H xs us Q I r h
  obtain ⟨as, M, Qu, S, ra, hf, c⟩ := h
  unfold bltW at hf
  split at hf <;> first | (rename_i e; cases e; done) | skip
  · obtain ⟨v, rfl, rv⟩ := vals1R ra
    cases rv
    rename_i p _
    obtain ⟨u, rfl, ru⟩ := vals1 r
    have eu : u = Value.ref p := ru
    subst eu
    refine Calls.call_function_entry PyProof.Rows.kind_sorted PyProof.Rows.plain_sorted PyProof.Rows.entry_sorted (PyProof.Rows.args_sorted1 _) ?_
    refine wpAny_bind (wpAny_pure (wpAny_bind ?_))
    rcases hf with ⟨ws, h1, ok, q⟩ | ⟨t, ks, h1, ok, q⟩ | ⟨ks, h1, ok, q⟩
    · obtain ⟨vs, e, rl⟩ := S _ _ h1
      have ob := I.hok _ _ e
      simp only [ObjOk] at ob
      obtain ⟨hlen, its, x, vals, get⟩ := ob
      have hl : its.length ≤ sizeLine := by rw [← vals.length]; exact hlen
      refine PyProof.Rows.collect_list (vs := its) ⟨_, get, rfl, _, rfl⟩ ?_ hl
      exact sort_tail I hu S c vals rl ok q fun b o e => by
        rw [Heap.get?_update_ne _ _ _ _ (Nat.ne_of_lt (Heap.lt_size e))]
        exact Heap.get?_push_of_some _ e
    · have q0 := S _ _ h1
      cases t with
      | false =>
        obtain ⟨kvs, e, rl⟩ := q0
        obtain ⟨z, lo, vs, rel, dd⟩ := dk_rd I.hok (.inl e)
        obtain ⟨ep, hat⟩ := dd.dictAt
        have el : vs.length = kvs.length := (Paired.length rel).symm
        refine W.kdu_collect (W.kdl_dict lo) (I.ok.hd hc) hat (by rw [el]; exact z) fun h' tk acc hk hacc => ?_
        refine sort_tail I hu S c (vals_pt (as := kvs.map fun kv => kV kv.1) ?_ fun j a u ha hu' => ?_) (relK_keys rl) ok q hk
        · have h5 := hacc.1
          show (kvs.map _).length = acc.toList.length
          rw [List.length_map, ← el, ← h5]
          exact Array.length_toList.symm
        · rw [Array.getElem?_toList] at hu'
          obtain ⟨k, x, e1, e2⟩ := hacc.2 j u hu'
          rw [List.getElem?_map] at ha
          cases h2 : kvs[j]? with
          | none => rw [h2] at ha; cases ha
          | some kv =>
            rw [h2] at ha
            cases ha
            obtain ⟨kv', h3, h4⟩ := paired_get rel h2
            rw [h3] at e1
            cases e1
            show RelV (kV kv.1) u
            rw [h4.1]
            cases k with
            | inl i =>
              obtain ⟨t, et⟩ := Value.isInt_shape e2
              exact ⟨t, et⟩
            | inr x =>
              obtain ⟨t, et⟩ := Value.isStrOf_shape e2
              exact ⟨t, et⟩
      | true =>
        obtain ⟨kvs, e, rl⟩ := q0
        obtain ⟨z, lo, xs, rel, o, es, ep, g1, g2, g3, g4, g5, g6⟩ := dt_rd I.hok (.inl e)
        have el : xs.length = kvs.length := (Paired.length rel).symm
        have esl : es.size = xs.length := by rw [← Array.length_toList, g4, List.length_map]
        refine W.kdu_collect (PySem.KdlSrc.rawDict (es := es) (ep := ep) lo) (I.ok.hd hc) ⟨o, g1, g2, g3⟩ (by rw [esl, el]; exact z) fun h' tk acc hk hacc => ?_
        refine sort_tail I hu S c (vals_pt (as := xs.map fun x => V.ref x.2.1) ?_ fun j a u ha hu' => ?_) (relT_keys rel rl) ok q hk
        · have h5 := hacc.1
          show (xs.map _).length = acc.toList.length
          rw [List.length_map, ← esl, ← h5]
          exact Array.length_toList.symm
        · rw [Array.getElem?_toList] at hu'
          obtain ⟨hi, e1⟩ := hacc.2 j u hu'
          rw [List.getElem?_map] at ha
          cases h2 : xs[j]? with
          | none => rw [h2] at ha; cases ha
          | some x =>
            rw [h2] at ha
            cases ha
            have e3 : es.toList[j]? = some (entryOfKey (tupleKind (mixKind X.prog X.w)) x) := by rw [g4, List.getElem?_map, h2]; rfl
            rw [Array.getElem?_toList, Array.getElem?_eq_getElem hi] at e3
            rw [e1, Option.some.inj e3]
            rfl
    · obtain ⟨xs, e, rn, ⟨o, es, ep, g1, g2, g3, g4, g5, g6⟩, lo, z⟩ := dcn_of I S h1
      have esl : es.size = xs.length := PySem.size_of_entries g4
      refine W.kdu_collect (PySem.KdlSrc.rawDict (es := es) (ep := ep) lo) (I.ok.hd hc) ⟨o, g1, g2, g3⟩ (by rw [esl]; exact z) fun h' tk acc hk hacc => ?_
      refine sort_tail I hu S c (vals_pt (as := xs.map fun x => V.ref x.2.1) ?_ fun j a u ha hu' => ?_) (relN_keys rn) ok q hk
      · have h5 := hacc.1
        show (xs.map _).length = acc.toList.length
        rw [List.length_map, ← esl, ← h5]
        exact Array.length_toList.symm
      · rw [Array.getElem?_toList] at hu'
        obtain ⟨hi, e1⟩ := hacc.2 j u hu'
        rw [List.getElem?_map] at ha
        cases h2 : xs[j]? with
        | none => rw [h2] at ha; cases ha
        | some x =>
          rw [h2] at ha
          cases ha
          have qe := PySem.entry_at g4 j
          rw [Array.getElem?_eq_getElem hi, h2] at qe
          rw [e1, Option.some.inj qe]
          rfl
  · exact hf.elim
end
end Pl

set_option maxHeartbeats 4000000
namespace Pl
open PySem L2
/-- a method by values: the receiver's reading and the arguments' stand apart -/
def MRs (K : Kw) (g : U → List U → Hm → QU → Prop) : V → List V → Hp → VK → Prop := fun x xs H Q => ∃ a us M Qu, Sim K H M ∧ Rel K H x a ∧ RelL K H xs us ∧ g a us M Qu ∧ Cont K H M Qu Q
def SlS (K : Kw) : V → Option Int → Option Int → Hp → VK → Prop := fun x lo hi H Q => ∃ a M Qu, Sim K H M ∧ Rel K H x a ∧ sliceW a lo hi M Qu ∧ Cont K H M Qu Q
section
variable {X : Cx}
theorem cut_rel {K : Kw} {H : Hp} {vs : List V} {us : List U} (r : RelL K H vs us) (lo hi : Option Int) : RelL K H (cutV vs lo hi) (cutU us lo hi) := by
  unfold cutV cutU
  rw [r.length]
  exact (r.drop _).take _
theorem cut_whole {us : List U} {lo hi : Option Int} (h : HT.sIx us.length 0 lo = 0 ∧ HT.sIx us.length us.length hi = us.length) : cutU us lo hi = us := by
  unfold cutU
  rw [h.1, h.2]
  simp
theorem sl_S : SlR X (SlS (kwX X)) := by
  intro pins s σ H x v vl vu lo hi sl Q I rx hs pl pu h
  obtain ⟨a, M, Qu, S, ra, hf, c⟩ := h
  unfold sliceW at hf
  split at hf
  · rename_i l
    cases ra with
    | tup t r =>
      refine sl_tupA pins s σ H _ v vl vu lo hi sl Q I rx hs pl pu ⟨_, _, rfl, t.sq, fun hw => ?_, fun _ p hp => c.tup S (cut_rel r lo hi) hf hp⟩
      rw [r.length] at hw
      rw [cut_whole hw] at hf
      exact c.at_ S (.tup t r) hf
  · obtain ⟨us, h1, q⟩ := hf
    obtain ⟨vs, e, r⟩ := S _ _ h1
    cases ra
    exact sl_list pins s σ H _ v vl vu lo hi sl Q I rx hs pl pu ⟨_, _, rfl, .inl (.inl e), fun p hp => c.lst S (cut_rel r lo hi) q hp⟩
  · exact hf.elim
/-- o[i] = v -/
def SetS (K : Kw) : TSet := fun o i v H Q => ∃ a b u M Qu, Sim K H M ∧ Rel K H o a ∧ Rel K H i b ∧ Rel K H v u ∧ setW a b u M Qu ∧ ∀ H' M', Stp H M H' M' → Sim K H' M' → Qu M' → Q H'
theorem set_S (hu : X.A.units + 66 < cLine) : PSet X (SetS (kwX X)) := by
  intro pins s σ H o i v ov iv u Q I ro ri rv h
  obtain ⟨a, b, u', M, Qu, S, ra, rb, ru, hf, c⟩ := h
  unfold setW at hf
  split at hf
  · rcases hf with ⟨us, j, k, h1, rfl, e, q⟩ | ⟨t, ks, h1, h2, h3, q⟩ | ⟨ks, h1, h2, h3, q⟩
    · obtain ⟨vs, e1, r⟩ := S _ _ h1
      cases ra
      cases rb
      refine set_list pins s σ H _ _ v ov iv u Q I ro ri rv ⟨_, vs, j, k, rfl, rfl, e1, by rw [r.length]; exact e, ?_⟩
      exact c _ _ (Stp.mut h1) (S.mut (m := .lst (us.set k u')) h1 rfl ⟨_, upd_same, (r.set k ru).stp S (Stp.mut (m := .lst (us.set k u')) h1)⟩) q
    · obtain ⟨H', g, st, S'⟩ := dput_of S h1 h2 rb ru h3
      cases ra
      obtain rfl : ov = Value.ref _ := ro
      exact d_setItem (by omega) I g ri rv fun s' I' => ⟨H', I', c _ _ st S' q⟩
    · cases ra
      obtain rfl : ov = Value.ref _ := ro
      exact n_setItem (by omega) I S h1 h3 h2 rb ri rv ru fun H' s' I' st S' => ⟨H', I', c _ _ st S' q⟩
  · exact hf.elim
/-! ### built-ins -/
theorem vals2R {K : Kw} {H : Hp} {xs : List V} {u w : U} (r : RelL K H xs [u, w]) : ∃ v y, xs = [v, y] ∧ Rel K H v u ∧ Rel K H y w := by
  cases r with
  | cons a b => obtain ⟨y, rfl, q⟩ := vals1R b; exact ⟨_, y, rfl, a, q⟩
theorem relL_ints {K : Kw} {H : Hp} : ∀ {ns : List Int} {vs : List V}, RelL K H vs (ns.map U.int) → vs = ns.map V.int
  | [], vs, h => by cases h; rfl
  | n :: ns, vs, h => by
    cases h with
    | cons a b => cases a; rw [relL_ints b]; rfl
theorem relL_bls {K : Kw} {H : Hp} : ∀ {ns : List Bool} {vs : List V}, RelL K H vs (ns.map U.bl) → vs = ns.map V.bl
  | [], vs, h => by cases h; rfl
  | n :: ns, vs, h => by
    cases h with
    | cons a b => cases a; rw [relL_bls b]; rfl
def bfnV : Bfn → Option Value
  | .len => some (.builtin "len")
  | .list => some (.type "list")
  | .tuple => some (.type "tuple")
  | .int => some (.type "int")
  | .abs => some (.builtin "abs")
  | .max => some (.builtin "max")
  | .min => some (.builtin "min")
  | .sorted => some (.builtin "sorted")
  | .sum => some (.builtin "sum")
  | .all => some (.builtin "all")
  | .any => some (.builtin "any")
  | .tupd => some (.type "tuple")
  | .dict => some (.type "dict")
  | _ => none
theorem cr_len : CallR X (.builtin "len") (CRs (kwX X) (bltW .len)) := by
  intro pins s σ H xs us Q I r h
  obtain ⟨as, M, Qu, S, ra, hf, c⟩ := h
  unfold bltW at hf
  split at hf <;> first | (rename_i e; cases e; done) | skip
  · rename_i e
    obtain ⟨v, rfl, rv⟩ := vals1R ra
    cases rv with
    | tup t rl =>
      refine call_len_seq pins s σ H _ us Q I r ⟨_, _, rfl, .inr t.sq, ?_⟩
      rw [rl.length]
      exact c.at_ S (.int _) hf
  · obtain ⟨v, rfl, rv⟩ := vals1R ra
    cases rv
    exact call_len_str pins s σ H _ us Q I r ⟨_, rfl, le_line hf.1, c.at_ S (.int _) hf.2⟩
  · obtain ⟨v, rfl, rv⟩ := vals1R ra
    cases rv
    rcases hf with ⟨ws, h1, q⟩ | ⟨ks, h1, q⟩
    · obtain ⟨vs, e, rl⟩ := S _ _ h1
      refine call_len_seq pins s σ H _ us Q I r ⟨_, _, rfl, .inl (.inl (.inl e)), ?_⟩
      rw [rl.length]
      exact c.at_ S (.int _) q
    · obtain ⟨kvs, e, rl⟩ := S _ _ h1
      refine call_lenD pins s σ H _ us Q I r ⟨_, _, rfl, e, ?_⟩
      rw [RelK.len rl]
      exact c.at_ S (.int _) q
  · obtain ⟨v, rfl, rv⟩ := vals1R ra
    cases rv with
    | dtp t rl =>
      refine call_len_seq pins s σ H _ us Q I r ⟨_, _, rfl, .inr t.sq, ?_⟩
      rw [rl.length]
      exact c.at_ S (.int _) hf
  · exact hf.elim
theorem cr_listS (hc : X.calm = true) : CallR X (.type "list") (CRs (kwX X) (bltW .list)) := by
  intro pins s σ H xs us Q I r h
  obtain ⟨as, M, Qu, S, ra, hf, c⟩ := h
  unfold bltW at hf
  split at hf <;> first | (rename_i e; cases e; done) | skip
  · obtain ⟨v, rfl, rv⟩ := vals1R ra
    cases rv with
    | tup t rl => exact call_list_of pins s σ H _ us Q I r ⟨_, _, rfl, .inr t.sq, fun l hl => c.lst S rl hf hl⟩
  · obtain ⟨v, rfl, rv⟩ := vals1R ra
    cases rv
    rcases hf with ⟨ws, h1, q⟩ | ⟨ks, h1, q⟩ | ⟨ks, h1, q⟩
    · obtain ⟨vs, e, rl⟩ := S _ _ h1
      exact call_list_of pins s σ H _ us Q I r ⟨_, _, rfl, .inl (.inl (.inl e)), fun l hl => c.lst S rl q hl⟩
    · obtain ⟨kvs, e, rl⟩ := S _ _ h1
      exact call_list_dK hc pins s σ H _ us Q I r ⟨_, _, rfl, e, fun l hl => c.lst S (relK_keys rl) q hl⟩
    · obtain ⟨u, rfl, ru⟩ := vals1 r
      obtain rfl : u = Value.ref _ := ru
      exact n_list hc I S h1 fun vs n rl hn => c.lst S rl q hn
  · obtain ⟨v, rfl, rv⟩ := vals1R ra
    cases rv with
    | dtp t rl => exact call_list_of pins s σ H _ us Q I r ⟨_, _, rfl, .inr t.sq, fun l hl => c.lst S rl hf hl⟩
  · exact hf.elim
theorem cr_tupleS : CallR X (.type "tuple") (CRs (kwX X) (bltW .tuple)) := by
  intro pins s σ H xs us Q I r h
  obtain ⟨as, M, Qu, S, ra, hf, c⟩ := h
  unfold bltW at hf
  split at hf <;> first | (rename_i e; cases e; done) | skip
  · obtain ⟨v, rfl, rv⟩ := vals1R ra
    cases rv with
    | tup t rl => exact call_tuple_of pins s σ H _ us Q I r ⟨_, _, rfl, .inr ⟨t.sq, c.at_ S (.tup t rl) hf⟩⟩
  · obtain ⟨v, rfl, rv⟩ := vals1R ra
    cases rv with
    | dtp t rl => exact call_tuple_of pins s σ H _ us Q I r ⟨_, _, rfl, .inr ⟨t.sq, c.at_ S (.dtp t rl) hf⟩⟩
  · obtain ⟨v, rfl, rv⟩ := vals1R ra
    cases rv
    obtain ⟨ws, h1, q⟩ := hf
    obtain ⟨vs, e, rl⟩ := S _ _ h1
    exact call_tuple_of pins s σ H _ us Q I r ⟨_, _, rfl, .inl ⟨.inl (.inl e), fun l hl => c.tup S rl q hl⟩⟩
  · exact hf.elim
theorem cr_tupdS : CallR X (.type "tuple") (CRs (kwX X) (bltW .tupd)) := by
  intro pins s σ H xs us Q I r h
  obtain ⟨as, M, Qu, S, ra, hf, c⟩ := h
  unfold bltW at hf
  split at hf <;> first | (rename_i e; cases e; done) | skip
  · obtain ⟨v, rfl, rv⟩ := vals1R ra
    cases rv
    obtain ⟨ws, h1, q⟩ := hf
    obtain ⟨vs, e, rl⟩ := S _ _ h1
    obtain ⟨u, rfl, rx⟩ := vals1 r
    cases rx
    obtain ⟨its, r', pl, hz⟩ := I.list (xs := vs) (.inl (.inl e))
    have hlen := r'.length
    refine call_tuple_list pl.isList (fun h' kp => ?_) (by simp only [List.size_toArray] <;> omega)
    have I1 : L2.Inv X pins σ H { s with heap := h' } := I.kept (t' := s.toks) kp
    have hf0 := I1.hok.fresh (Nat.le_refl h'.objs.size)
    have I2 : L2.Inv X pins σ (upd H h'.objs.size (.frz { cls := .type "tuple", data := .seq its.toArray } (.tup vs))) { s with heap := h'.push { cls := .type "tuple", data := .seq its.toArray } } :=
      I1.laid (t' := s.toks) (fun b o e => Heap.get?_push_of_some _ e) (Nat.le_refl _) (show ObjOk X.prog X.w _ _ _ (.frz _ (.tup vs)) from ⟨Heap.get?_push_size _ rfl, hz, its, r', PyProof.Rows.IsTup.new _ _⟩)
    refine ⟨.ref h'.objs.size, _, I2, rfl, ?_⟩
    have st : Stp H M (upd H h'.objs.size (.frz { cls := .type "tuple", data := .seq its.toArray } (.tup vs))) M := Stp.newT S hf0
    have S2 : Sim (kwX X) (upd H h'.objs.size (.frz { cls := .type "tuple", data := .seq its.toArray } (.tup vs))) M := S.to st fun a o e => .inl ⟨e, upd_ne fun z => by
      have q := S.fr hf0
      rw [z, q] at e
      cases e⟩
    exact c _ _ (.dtp ws) M st S2 (.dtp (.inl ⟨_, upd_same, rfl, rfl⟩) (rl.stp S st)) q
  · exact hf.elim
theorem cr_intS : CallR X (.type "int") (CRs (kwX X) (bltW .int)) := by
  intro pins s σ H xs us Q I r h
  obtain ⟨as, M, Qu, S, ra, hf, c⟩ := h
  unfold bltW at hf
  split at hf <;> first | (rename_i e; cases e; done) | skip
  · obtain ⟨v, rfl, rv⟩ := vals1R ra
    cases rv
    exact call_int1 pins s σ H _ us Q I r (.inl ⟨_, rfl, c.at_ S (.int _) hf⟩)
  · obtain ⟨v, rfl, rv⟩ := vals1R ra
    cases rv
    exact call_int1 pins s σ H _ us Q I r (.inr ⟨_, rfl, c.at_ S (.int _) hf⟩)
  · exact hf.elim
theorem cr_absS : CallR X (.builtin "abs") (CRs (kwX X) (bltW .abs)) := by
  intro pins s σ H xs us Q I r h
  obtain ⟨as, M, Qu, S, ra, hf, c⟩ := h
  unfold bltW at hf
  split at hf <;> first | (rename_i e; cases e; done) | skip
  · obtain ⟨v, rfl, rv⟩ := vals1R ra
    cases rv
    exact call_abs pins s σ H _ us Q I r ⟨_, rfl, c.at_ S (.int _) hf⟩
  · exact hf.elim
theorem cr_maxS (hc : X.calm = true) : CallR X (.builtin "max") (CRs (kwX X) (bltW .max)) := by
  intro pins s σ H xs us Q I r h
  obtain ⟨as, M, Qu, S, ra, hf, c⟩ := h
  unfold bltW at hf
  split at hf <;> first | (rename_i e; cases e; done) | skip
  · obtain ⟨v, y, rfl, rv, ry⟩ := vals2R ra
    cases rv; cases ry
    exact call_max2 hc pins s σ H _ us Q I r ⟨_, _, rfl, c.at_ S (.int _) hf⟩
  · obtain ⟨v, rfl, rv⟩ := vals1R ra
    cases rv
    obtain ⟨ns, h1, hn, q⟩ := hf
    obtain ⟨vs, e, rl⟩ := S _ _ h1
    obtain rfl := relL_ints rl
    exact cr_max hc pins s σ H _ us Q I r ⟨_, ns, rfl, .inl (.inl e), hn, fun m h1 h2 => c.at_ S (.int _) (q m h1 h2)⟩
  · exact hf.elim
theorem cr_minS (hc : X.calm = true) : CallR X (.builtin "min") (CRs (kwX X) (bltW .min)) := by
  intro pins s σ H xs us Q I r h
  obtain ⟨as, M, Qu, S, ra, hf, c⟩ := h
  unfold bltW at hf
  split at hf <;> first | (rename_i e; cases e; done) | skip
  · obtain ⟨v, y, rfl, rv, ry⟩ := vals2R ra
    cases rv; cases ry
    exact call_min2 hc pins s σ H _ us Q I r ⟨_, _, rfl, c.at_ S (.int _) hf⟩
  · obtain ⟨v, rfl, rv⟩ := vals1R ra
    cases rv
    obtain ⟨ns, h1, hn, q⟩ := hf
    obtain ⟨vs, e, rl⟩ := S _ _ h1
    obtain rfl := relL_ints rl
    exact cr_min hc pins s σ H _ us Q I r ⟨_, ns, rfl, .inl (.inl e), hn, fun m h1 h2 => c.at_ S (.int _) (q m h1 h2)⟩
  · exact hf.elim
theorem cr_sumS (hc : X.calm = true) : CallR X (.builtin "sum") (CRs (kwX X) (bltW .sum)) := by
  intro pins s σ H xs us Q I r h
  obtain ⟨as, M, Qu, S, ra, hf, c⟩ := h
  unfold bltW at hf
  split at hf <;> first | (rename_i e; cases e; done) | skip
  · obtain ⟨v, rfl, rv⟩ := vals1R ra
    cases rv
    obtain ⟨ns, h1, q⟩ := hf
    obtain ⟨vs, e, rl⟩ := S _ _ h1
    obtain rfl := relL_ints rl
    exact cr_sum hc pins s σ H _ us Q I r ⟨_, ns, rfl, .inl (.inl e), c.at_ S (.int _) q⟩
  · exact hf.elim
theorem cr_allS (hc : X.calm = true) : CallR X (.builtin "all") (CRs (kwX X) (bltW .all)) := by
  intro pins s σ H xs us Q I r h
  obtain ⟨as, M, Qu, S, ra, hf, c⟩ := h
  unfold bltW at hf
  split at hf <;> first | (rename_i e; cases e; done) | skip
  · obtain ⟨v, rfl, rv⟩ := vals1R ra
    cases rv
    obtain ⟨ns, h1, q⟩ := hf
    obtain ⟨vs, e, rl⟩ := S _ _ h1
    obtain rfl := relL_bls rl
    exact cr_all hc pins s σ H _ us Q I r ⟨_, ns, rfl, .inl (.inl e), c.at_ S (.bl _) q⟩
  · exact hf.elim
theorem cr_anyS (hc : X.calm = true) : CallR X (.builtin "any") (CRs (kwX X) (bltW .any)) := by
  intro pins s σ H xs us Q I r h
  obtain ⟨as, M, Qu, S, ra, hf, c⟩ := h
  unfold bltW at hf
  split at hf <;> first | (rename_i e; cases e; done) | skip
  · obtain ⟨v, rfl, rv⟩ := vals1R ra
    cases rv
    obtain ⟨ns, h1, q⟩ := hf
    obtain ⟨vs, e, rl⟩ := S _ _ h1
    obtain rfl := relL_bls rl
    exact cr_any hc pins s σ H _ us Q I r ⟨_, ns, rfl, .inl (.inl e), c.at_ S (.bl _) q⟩
  · exact hf.elim
theorem cr_dictS : CallR X (.type "dict") (CRs (kwX X) (bltW .dict)) := by
  intro pins s σ H xs us Q I r h
  obtain ⟨as, M, Qu, S, ra, hf, c⟩ := h
  unfold bltW at hf
  split at hf <;> first | (rename_i e; cases e; done) | skip
  · obtain ⟨v, rfl, rv⟩ := vals1R ra
    cases rv
    obtain ⟨ks, h1, q⟩ := hf
    obtain ⟨kvs, e, rl⟩ := S _ _ h1
    refine call_dictD pins s σ H _ us Q I r ⟨_, kvs, rfl, .inl e, fun p hp => ?_⟩
    have st : Stp H M (upd H p (.dK kvs)) (um M p (.dct false false ks)) := Stp.new S hp
    exact c _ _ (.ref p) _ st (S.new (m := .dct false false ks) hp ⟨kvs, upd_same, Paired.mapR rl fun p q x => ⟨x.1, x.2.stp S st⟩⟩) (.ref p) (q p (S.fr hp))
  · exact hf.elim
theorem cr_S (hc : X.calm = true) (hu : X.A.units + 66 < cLine) {f : Bfn} {v : Value} (h : bfnV f = some v) : CallR X v (CRs (kwX X) (bltW f)) := by
  cases f <;> first | (cases h; done) | skip
  · cases h; exact cr_len
  · cases h; exact cr_listS hc
  · cases h; exact cr_tupleS
  · cases h; exact cr_intS
  · cases h; exact cr_absS
  · cases h; exact cr_maxS hc
  · cases h; exact cr_minS hc
  · cases h; exact cr_sortedS hc hu
  · cases h; exact cr_sumS hc
  · cases h; exact cr_allS hc
  · cases h; exact cr_anyS hc
  · cases h; exact cr_dictS
  · cases h; exact cr_tupdS
/-! ### methods -/
/-- the receiver's type, where the method is called -/
def mfnT : Mfn → Option (String × Str × String)
  | .append => some ("list", "append", "list.append")
  | .extend => some ("list", "extend", "list.extend")
  | .pop => some ("list", "pop", "list.pop")
  | .popAt => some ("list", "pop", "list.pop")
  | .index => some ("list", "index", "list.index")
  | .split => some ("str", "split", "str.split")
  | .pop2 => some ("dict", "pop", "dict.pop")
  | _ => none
theorem mt_appendS : MtR X "list.append" (MRs (kwX X) (mthW .append)) := by
  intro pins s σ H x xs v us Q I r rs h
  obtain ⟨a, bs, M, Qu, S, ra, rb, hf, c⟩ := h
  unfold mthW at hf
  split at hf <;> first | (rename_i e; cases e; done) | skip
  · obtain ⟨ws, h1, h2, q⟩ := hf
    obtain ⟨y, rfl, ry⟩ := vals1R rb
    obtain ⟨vs, e, rl⟩ := S _ _ h1
    cases ra
    exact mt_append pins s σ H _ _ v us Q I r rs ⟨_, vs, y, rfl, rfl, e, by rw [rl.length]; exact lt_line h2, c.mutL S h1 (rl.append (.cons ry .nil)) .non q⟩
  · exact hf.elim
theorem td_obj {b : Addr} {zs : List V} {pins : List (Addr × Obj)} {s : Shared} {σ : L2.St} {H : Hp} (I : L2.Inv X pins σ H s) (td : Td (kwX X) H b zs) :
    ∃ ob, s.heap.get? b = some ob ∧ (∃ its2 : List Value, Vals zs its2 ∧ ob.cls = .type "tuple" ∧ ∃ n2, ob.data = .seq its2.toArray n2) ∧ zs.length ≤ sizeLine ∧ ob.dict = none ∧ ob.slots = #[] := by
  rcases td with ⟨ob, hB, hd, hs⟩ | ⟨ob, its, n, ⟨h1, h2, h3, h4, h5⟩, hd, hs⟩
  · obtain ⟨hg, hz2, its2, rv, ho⟩ := (show ObjOk X.prog X.w H s.heap b (.frz ob (.tup zs)) from I.hok b _ hB)
    obtain ⟨o2, h2, h3, n2, h4⟩ := ho
    obtain rfl : o2 = ob := by rw [hg] at h2; injection h2 with h2; exact h2.symm
    exact ⟨o2, hg, ⟨its2, rv, h3, n2, h4⟩, hz2, hd, hs⟩
  · refine ⟨ob, I.kIn b ob h1, ⟨its.toList, h5, h2, n, by rw [h3]⟩, ?_, hd, hs⟩
    rw [h5.length]
    simpa using h4
/-- a list extended by a tuple that has no dict -/
theorem mt_extT {l b : Addr} {xs zs : List V} {ob : Obj} {pins : List (Addr × Obj)} {s : Shared} {σ : L2.St} {H : Hp} {Q : VK} (I : L2.Inv X pins σ H s) (hH : H l = some (.lst xs)) (hg : s.heap.get? b = some ob) (hob : ∃ its2 : List Value, Vals zs its2 ∧ ob.cls = .type "tuple" ∧ ∃ n2, ob.data = .seq its2.toArray n2) (hz2 : zs.length ≤ sizeLine) (hd : ob.dict = none) (hs : ob.slots = #[]) (hz : xs.length + zs.length ≤ sizeLine) (q : Q .non (upd H l (.lst (xs ++ zs)))) :
    wpAny (model X.prog X.w) X.A (call (.builtin "list.extend") [.ref l, .ref b]) (EP X pins σ Q) X.xe s := by
  obtain ⟨z, its, n, r, hl, e⟩ := I.lstM hH
  obtain ⟨its2, rv, h3, n2, h4⟩ := hob
  have e2 : s.heap.get? b = some { cls := .type "tuple", data := .seq its2.toArray n2 } := by
    rw [hg]
    obtain ⟨c1, c2, c3, c4⟩ := ob
    simp only at h3 hd hs h4
    subst h3 hd hs h4
    rfl
  have hl2 : its2.length = zs.length := rv.length.symm
  have hl1 : its.length = xs.length := hl.symm
  have hsz : its.toArray.size + its2.toArray.size ≤ sizeLine := by
    rw [List.size_toArray, List.size_toArray]; omega
  have hlong : ¬(!its.toArray.isEmpty && Builtin.List.listTooLong (its.toArray.size + its2.toArray.size)) = true := by
    rw [notLongL hsz, Bool.and_false]; decide
  exact call_meets PySem.F.slot_list_extend ⟨_, e, rfl⟩ PySem.F.entry_list_extend (PySem.F.args_list_extend_2 (.ref l) (.ref b))
    (AutoSeq1.list_extend_list_tuple_0 l its.toArray n b its2.toArray n2 hlong (by rw [List.size_toArray]; omega) (by omega))
    ⟨e, e2, .non, _, I.lset hH e (by rw [List.append_toArray]) (r.append rv) (by rw [List.length_append]; exact hz), rfl, q⟩
theorem mt_extendS : MtR X "list.extend" (MRs (kwX X) (mthW .extend)) := by
  intro pins s σ H x xs v us Q I r rs h
  obtain ⟨a, bs, M, Qu, S, ra, rb, hf, c⟩ := h
  unfold mthW at hf
  split at hf <;> first | (rename_i e; cases e; done) | skip
  · obtain ⟨ws, zs, h1, h2, h3, q⟩ := hf
    obtain ⟨y, rfl, ry⟩ := vals1R rb
    obtain ⟨vs, e, rl⟩ := S _ _ h1
    obtain ⟨ys, e2, rl2⟩ := S _ _ h2
    cases ra; cases ry
    exact mt_extend pins s σ H _ _ v us Q I r rs ⟨_, _, vs, ys, rfl, rfl, e, e2, by rw [rl.length, rl2.length]; exact le_line h3, c.mutL S h1 (rl.append rl2) .non q⟩
  · obtain ⟨ws, h1, h3, q⟩ := hf
    obtain ⟨y, rfl, ry⟩ := vals1R rb
    obtain ⟨vs, e, rl⟩ := S _ _ h1
    cases ra
    cases ry with
    | dtp td rl2 =>
      obtain rfl : v = _ := r
      obtain ⟨u, rfl, ru⟩ := vals1 rs
      cases ru
      obtain ⟨ob, hg, hob, hz2, hd, hs⟩ := td_obj I td
      exact mt_extT I e hg hob hz2 hd hs (by rw [rl.length, rl2.length]; exact le_line h3) (c.mutL S h1 (rl.append rl2) .non q)
  · exact hf.elim
theorem mt_popS : MtR X "list.pop" (MRs (kwX X) (mthW .pop)) := by
  intro pins s σ H x xs v us Q I r rs h
  obtain ⟨a, bs, M, Qu, S, ra, rb, hf, c⟩ := h
  unfold mthW at hf
  split at hf <;> first | (rename_i e; cases e; done) | skip
  · obtain ⟨ws, y, h1, h2, q⟩ := hf
    cases rb
    obtain ⟨vs, e, rl⟩ := S _ _ h1
    obtain ⟨z, e2, rz⟩ := rl.get h2
    cases ra
    exact mt_pop pins s σ H _ _ v us Q I r rs ⟨_, vs, z, rfl, rfl, e, by rw [rl.length]; exact e2, c.mutL S h1 rl.dropLast rz q⟩
  · exact hf.elim
theorem mt_popAtS : MtR X "list.pop" (MRs (kwX X) (mthW .popAt)) := by
  intro pins s σ H x xs v us Q I r rs h
  obtain ⟨a, bs, M, Qu, S, ra, rb, hf, c⟩ := h
  unfold mthW at hf
  split at hf <;> first | (rename_i e; cases e; done) | skip
  · obtain ⟨ws, k, y, h1, h2, h3, h4, q⟩ := hf
    obtain ⟨y2, rfl, ry⟩ := vals1R rb
    obtain ⟨vs, e, rl⟩ := S _ _ h1
    obtain ⟨z, e2, rz⟩ := rl.get h4
    obtain ⟨e3, e4, e5, e6⟩ := ixN_seq h3
    have hl : LIM = 100000 := rfl
    cases ra; cases ry
    exact mt_popAt pins s σ H _ _ v us Q I r rs ⟨_, vs, _, k, z, rfl, rfl, e, by omega, by omega, by rw [rl.length]; exact e3, e2, c.mutL S h1 (rl.eraseIdx k) rz q⟩
  · exact hf.elim
theorem mt_indexS (hu : X.A.units + 66 < cLine) : MtR X "list.index" (MRs (kwX X) (mthW .index)) := by
  intro pins s σ H x xs v us Q I r rs h
  obtain ⟨a, bs, M, Qu, S, ra, rb, hf, c⟩ := h
  unfold mthW at hf
  split at hf <;> first | (rename_i e; cases e; done) | skip
  · rename_i y _
    obtain ⟨ws, j, h1, h2, h3, h4, h5, q⟩ := hf
    obtain ⟨y2, rfl, ry⟩ := vals1R rb
    cases ra
    refine mt_indexD (by omega) pins s σ H _ _ v us Q I r rs ⟨_, y2, pd y, pdL ws, j, pd y, rfl, rfl, okL_dp S h1 h3, ok_dp 60 y y2 h2 ry, okL_shaped h3, ok_shaped h2 (by decide), ?_, ?_, ?_, c.at_ S (.int _) q⟩
    · rw [pdL_map, List.getElem?_map, h4]
      rfl
    · rw [ok_eqv 60 y 60 y h2 h2]
      exact decide_eq_true rfl
    · intro m z' hm hz
      rw [pdL_map, List.getElem?_map] at hz
      cases hw : ws[m]? with
      | none => rw [hw] at hz; cases hz
      | some w =>
        rw [hw] at hz
        cases hz
        rw [ok_eqv 59 w 60 y (okL_all h3 w (List.mem_of_getElem? hw)) h2]
        exact decide_eq_false fun e => h5 m hm (by rw [hw, e])
  · exact hf.elim
theorem RelT.dropk {K : Kw} {H : Hp} {kvs : List (List Key × V)} {ks : List (U × U)} (h : RelT K H kvs ks) (key : List Key) : RelT K H (dropK kvs key) (ddrop ks (.tup (key.map keyU))) := by
  induction h with
  | nil => exact .nil
  | @cons p q kvs ks a _ ih =>
    unfold dropK ddrop at ih ⊢
    rw [List.filter_cons, List.filter_cons]
    by_cases e : p.1 = key
    · rw [if_neg (by simpa using e), if_neg (by rw [a.1, e]; simp)]
      exact ih
    · rw [if_pos (by simpa using e), if_pos (by
        rw [a.1, Bool.not_eq_true', decide_eq_false_iff_not]
        intro h
        injection h with h
        exact e (keysU_inj h))]
      exact .cons a ih
theorem mt_popT1 {a b : Addr} {kvs : List (List Key × V)} {k : List Key} {w0 : V} {pins : List (Addr × Obj)} {s : Shared} {σ : L2.St} {H : Hp} {Q : VK} (hu : X.A.units + 1 < cLine) (I : L2.Inv X pins σ H s) (ha : H a = some (.dT kvs)) (hb : H b = some (.tup (k.map kV))) (hv : valV kvs k = some w0) (q : Q w0 (upd H a (.dT (dropK kvs k)))) :
    wpAny (model X.prog X.w) X.A (call (.builtin "dict.pop") [.ref a, .ref b]) (EP X pins σ Q) X.xe s := by
  obtain ⟨z, hd, xs', rel, dd⟩ := dt_of I.hok ha
  have hz : xs'.length ≤ sizeLine := by rw [← Paired.length rel]; exact z
  refine call_meetsIn PySem.F.slot_dict_pop dd.typeIs PySem.F.entry_dict_pop (PySem.F.args_dict_pop_2 (.ref a) (.ref b)) (meetsH_dict_pop _ a b hd [] (.inl rfl)) ⟨tupleKind_room_in1 hu, k, xs', key_of I.hok hb, dd, hz, fun p hp h' dd' hs => ?_, fun hn => ?_⟩
  · have r := KT.val rel k
    rw [hp, hv] at r
    obtain ⟨o, es, ep, hq, h2, h3, h4, h5, h6⟩ := dd'
    have I2 : L2.Inv X pins σ (upd H a (.dT (dropK kvs k))) { heap := h', gens := s.gens, drawn := s.drawn, toks := s.toks + (tupleKind (mixKind X.prog X.w)).draws k, os := s.os } := d_write (ob := .dT (dropK kvs k)) (t' := s.toks + (tupleKind (mixKind X.prog X.w)).draws k) I (by rw [ha]; trivial) hs ⟨o, hq⟩ ⟨Nat.le_trans (dropK_le kvs k) z, hd, DT.dropH xs' k, (DX.KT_drop k rel).keeps (fun b ys ec => by rw [upd_ne (ne_of ec ha fun z => nomatch z)]; exact ec), o, es, ep, hq, h2, h3, h4, h6⟩
    exact ⟨w0, _, I2, r, q⟩
  · have r := KT.val rel k
    rw [hn, hv] at r
    exact r.elim
theorem mt_pop2S (hu : X.A.units + 66 < cLine) : MtR X "dict.pop" (MRs (kwX X) (mthW .pop2)) := by
  intro pins s σ H x xs v us Q I r rs h
  obtain ⟨a, bs, M, Qu, S, ra, rb, hf, c⟩ := h
  unfold mthW at hf
  split at hf <;> first | (rename_i e; cases e; done) | skip
  · obtain ⟨ks, w0, h1, hk, hw, q⟩ := hf
    obtain ⟨y, rfl, ry⟩ := vals1R rb
    obtain ⟨kvs, e, rk⟩ := S _ _ h1
    have e : H _ = some (.dT kvs) := e
    obtain ⟨b, key, e1, e2, e3⟩ := isKeyT_of hk ry
    subst e2
    cases ra
    rw [e1] at q hw
    obtain rfl : v = _ := r
    obtain ⟨u, rfl, ru⟩ := vals1 rs
    cases ru
    rcases rk.find key with ⟨g1, g2⟩ | ⟨w', u', g1, g2, g3⟩
    · rw [hw] at g2; cases g2
    · rw [hw] at g2
      cases g2
      have st : Stp H M (upd H _ (.dT (dropK kvs key))) (um M _ (.dct false true (ddrop ks (.tup (key.map keyU))))) := Stp.mut h1
      exact mt_popT1 (by omega) I e e3 g1 (c _ _ w0 _ st (S.mut (m := .dct false true (ddrop ks (.tup (key.map keyU)))) h1 rfl ⟨_, upd_same, RelT.dropk (Paired.mapR rk fun p q x => ⟨x.1, x.2.stp S st⟩) key⟩) (g3.stp S st) q)
  · obtain ⟨ks, h1, hk, q⟩ := hf
    obtain ⟨y, d, rfl, ry, rd⟩ := vals2R rb
    obtain ⟨kvs, e, rk⟩ := S _ _ h1
    have e : H _ = some (.dT kvs) := e
    obtain ⟨b, key, e1, e2, e3⟩ := isKeyT_of hk ry
    subst e2
    cases ra
    rw [e1] at q
    refine L2.DX.mt_popT (by omega) pins s σ H _ _ v us Q I r rs ⟨_, kvs, key, b, d, rfl, rfl, e, e3, fun w hw => ?_, fun hw => ?_⟩
    · rcases rk.find key with ⟨g1, g2⟩ | ⟨w', u', g1, g2, g3⟩
      · rw [hw] at g1; cases g1
      · rw [hw] at g1
        cases g1
        rw [g2] at q
        have st : Stp H M (upd H _ (.dT (dropK kvs key))) (um M _ (.dct false true (ddrop ks (.tup (key.map keyU))))) := Stp.mut h1
        exact c _ _ u' _ st (S.mut (m := .dct false true (ddrop ks (.tup (key.map keyU)))) h1 rfl ⟨_, upd_same, RelT.dropk (Paired.mapR rk fun p q x => ⟨x.1, x.2.stp S st⟩) key⟩) (g3.stp S st) q
    · rcases rk.find key with ⟨g1, g2⟩ | ⟨w', u', g1, g2, g3⟩
      · rw [g2] at q
        exact c.at_ S rd q
      · rw [hw] at g1; cases g1
  · exact hf.elim
theorem mt_splitS : MtR X "str.split" (MRs (kwX X) (mthW .split)) := by
  intro pins s σ H x xs v us Q I r rs h
  obtain ⟨a, bs, M, Qu, S, ra, rb, hf, c⟩ := h
  unfold mthW at hf
  split at hf <;> first | (rename_i e; cases e; done) | skip
  · obtain ⟨h1, h2, q⟩ := hf
    obtain ⟨y, rfl, ry⟩ := vals1R rb
    cases ra; cases ry
    exact mt_split pins s σ H _ _ v us Q I r rs ⟨_, _, rfl, rfl, h1, le_line h2, fun p hp => c.lst S (RelL.strs _) q hp⟩
  · exact hf.elim
/-! ### isinstance -/
def IsS (K : Kw) (t : String) : V → Hp → (Bool → Hp → Prop) → Prop := fun x H Q => ∃ a M Qu, Sim K H M ∧ Rel K H x a ∧ isTyW a t M Qu ∧ ContB K H M Qu Q
def tyOk (t : String) : Bool := t == "tuple" || t == "str" || t == "int" || t == "bool" || t == "list"
theorem isTy_of {K : Kw} {t : String} {x : V} {H : Hp} {Q : Bool → Hp → Prop} (ht : tyOk t = true) (h : IsS K t x H Q) : ∃ ty b, TyX K H x ty ∧ PySem.W.kitOne K ty (.type t) = some b ∧ Q b H := by
  obtain ⟨a, M, Qu, S, r, hf, c⟩ := h
  have ht2 : t = "tuple" ∨ t = "str" ∨ t = "int" ∨ t = "bool" ∨ t = "list" := by
    unfold tyOk at ht
    simp only [Bool.or_eq_true, beq_iff_eq] at ht
    rcases ht with (((h | h) | h) | h) | h
    · exact .inl h
    · exact .inr (.inl h)
    · exact .inr (.inr (.inl h))
    · exact .inr (.inr (.inr (.inl h)))
    · exact .inr (.inr (.inr (.inr h)))
  unfold isTyW at hf
  split at hf
  · cases r
    refine ⟨_, _, .base .non, ?_, c _ _ _ (Stp.refl H M) S hf⟩
    rcases ht2 with rfl | rfl | rfl | rfl | rfl <;> exact kit_ty (by decide +kernel)
  · cases r
    refine ⟨_, _, .base (.bl _), ?_, c _ _ _ (Stp.refl H M) S hf⟩
    rcases ht2 with rfl | rfl | rfl | rfl | rfl <;> exact kit_ty (by decide +kernel)
  · cases r
    refine ⟨_, _, .base (.int _), ?_, c _ _ _ (Stp.refl H M) S hf⟩
    rcases ht2 with rfl | rfl | rfl | rfl | rfl <;> exact kit_ty (by decide +kernel)
  · cases r
    refine ⟨_, _, .base (.str _), ?_, c _ _ _ (Stp.refl H M) S hf⟩
    rcases ht2 with rfl | rfl | rfl | rfl | rfl <;> exact kit_ty (by decide +kernel)
  · cases r with
    | tup t1 r1 =>
      rcases t1 with t1 | ⟨_, o1, _, _, e1, e2, _⟩
      · refine ⟨_, _, .base (.tup t1), ?_, c _ _ _ (Stp.refl H M) S hf⟩
        rcases ht2 with rfl | rfl | rfl | rfl | rfl <;> exact kit_ty (by decide +kernel)
      · refine ⟨_, _, .kTuple e1 e2, ?_, c _ _ _ (Stp.refl H M) S hf⟩
        rcases ht2 with rfl | rfl | rfl | rfl | rfl <;> exact kit_ty (by decide +kernel)
  · cases r with
    | dtp t1 r1 =>
      rcases t1 with ⟨o1, e1, _⟩ | ⟨o1, _, _, ⟨e1, e2, _⟩, _⟩
      · refine ⟨_, _, .fTuple e1, ?_, c _ _ _ (Stp.refl H M) S hf⟩
        rcases ht2 with rfl | rfl | rfl | rfl | rfl <;> exact kit_ty (by decide +kernel)
      · refine ⟨_, _, .kTuple e1 e2, ?_, c _ _ _ (Stp.refl H M) S hf⟩
        rcases ht2 with rfl | rfl | rfl | rfl | rfl <;> exact kit_ty (by decide +kernel)
  · obtain ⟨us, h1, q⟩ := hf
    obtain ⟨vs, e, rl⟩ := S _ _ h1
    cases r
    refine ⟨_, _, .base (.lst e), ?_, c _ _ _ (Stp.refl H M) S q⟩
    rcases ht2 with rfl | rfl | rfl | rfl | rfl <;> exact kit_ty (by decide +kernel)
  · exact hf.elim
end
end Pl

set_option maxHeartbeats 4000000
/-! expressions: the text against the small syntax -/
namespace Pl
open PySem L2
def RelS (K : Kw) (H : Hp) (σ : L2.St) (σu : SU) : Prop := σ.length = σu.length ∧ ∀ (i : Nat) (u : U), σu[i]? = some (some u) → ∃ v, σ[i]? = some (some v) ∧ Rel K H v u
theorem RelS.stp {K : Kw} {H H' : Hp} {M M' : Hm} {σ : L2.St} {σu : SU} (S : Sim K H M) (t : Stp H M H' M') (h : RelS K H σ σu) : RelS K H' σ σu :=
  ⟨h.1, fun i u e => let ⟨v, a, b⟩ := h.2 i u e; ⟨v, a, b.stp S t⟩⟩
theorem RelS.set {K : Kw} {H : Hp} {σ : L2.St} {σu : SU} {v : V} {u : U} (h : RelS K H σ σu) (r : Rel K H v u) (i : Nat) : RelS K H (σ.set i (some v)) (σu.set i (some u)) :=
  ⟨by rw [List.length_set, List.length_set, h.1], fun j w e => by
    by_cases hj : i = j
    · subst hj
      by_cases hl : i < σu.length
      · rw [List.getElem?_set_self hl] at e
        cases e
        exact ⟨v, List.getElem?_set_self (by rw [h.1]; exact hl), r⟩
      · rw [List.getElem?_eq_none (by rw [List.length_set]; omega)] at e
        cases e
    · rw [List.getElem?_set_ne hj] at e ⊢
      exact h.2 j w e⟩
theorem RelS.wipe {K : Kw} {H : Hp} {σ : L2.St} {σu : SU} (h : RelS K H σ σu) : ∀ vs : List Nat, RelS K H (L2.wipe σ vs) (wipU σu vs)
  | [] => h
  | v :: vs => by
    have ih := RelS.wipe h vs
    unfold L2.wipe wipU
    refine ⟨by rw [List.length_set, List.length_set, ih.1], fun j w e => ?_⟩
    by_cases hj : v = j
    · subst hj
      by_cases hl : v < (wipU σu vs).length
      · rw [List.getElem?_set_self hl] at e
        cases e
      · rw [List.getElem?_eq_none (by rw [List.length_set]; omega)] at e
        cases e
    · rw [List.getElem?_set_ne hj] at e ⊢
      exact ih.2 j w e

def EvE (K : Kw) (t : TE) (f : WE) : Prop := ∀ (σ : L2.St) (H : Hp) (σu : SU) (M : Hm) (Qu : QU) (Q : VK), RelS K H σ σu → Sim K H M → f σu M Qu → Cont K H M Qu Q → t σ H Q
def EvT (K : Kw) (t : TT) (f : WT) : Prop := ∀ (σ : L2.St) (H : Hp) (σu : SU) (M : Hm) (Qu : Bool → Hm → Prop) (Q : Bool → Hp → Prop), RelS K H σ σu → Sim K H M → f σu M Qu → ContB K H M Qu Q → t σ H Q
def EvL (K : Kw) (t : TA) (f : WL) : Prop := ∀ (σ : L2.St) (H : Hp) (σu : SU) (M : Hm) (Qu : List U → Hm → Prop) (Q : List V → Hp → Prop), RelS K H σ σu → Sim K H M → f σu M Qu → ContL K H M Qu Q → t σ H Q
def ContO (K : Kw) (H : Hp) (M : Hm) (Qu : Option Int → Hm → Prop) (Q : Option Int → Hp → Prop) : Prop := ∀ o H' M', Stp H M H' M' → Sim K H' M' → Qu o M' → Q o H'
def EvO (K : Kw) (t : TO) (f : WO) : Prop := ∀ (σ : L2.St) (H : Hp) (σu : SU) (M : Hm) (Qu : Option Int → Hm → Prop) (Q : Option Int → Hp → Prop), RelS K H σ σu → Sim K H M → f σu M Qu → ContO K H M Qu Q → t σ H Q

def SE1 (X : Cx) (f : WE) (x : Expr) : Prop := ∃ t, PE X x t ∧ EvE (kwX X) t f
def ST (X : Cx) (f : WT) (x : Expr) : Prop := ∃ t, PT X x t ∧ EvT (kwX X) t f
def SE (X : Cx) (W : Wp) (x : Expr) : Prop := SE1 X W.e x ∧ ST X W.t x
def SA (X : Cx) (f : WL) (es : List Expr) : Prop := ∃ t, PA X es t ∧ EvL (kwX X) t f
def SO (X : Cx) (f : WO) (e : Option Expr) : Prop := ∃ t, PO X e t ∧ EvO (kwX X) t f

/-- its test is its value's truth -/
def plainT : Expr → Bool
  | .UnaryOp .Not _ _ => false
  | .BoolOp .. => false
  | .IfExp .. => false
  | .Compare .. => false
  | _ => true
section
variable {X : Cx}
theorem plainT_eq {e : Expr} (h : plainT e = true) (whole : Sem Value) : isTrue e X.env whole = (do let v ← whole; standAt e.pos; holding [v] (truthy v)) := by
  cases e with
  | UnaryOp op _ _ => cases op <;> first | (cases h; done) | rfl
  | BoolOp _ _ _ => cases h
  | IfExp _ _ _ _ => cases h
  | Compare _ _ _ _ => cases h
  | _ => rfl
theorem SE.ofE {f : WE} {x : Expr} (hx : plainT x = true) (h : SE1 X f x) : SE X (.ofE f) x := by
  refine ⟨h, ?_⟩
  obtain ⟨t, p, q⟩ := h
  refine ⟨_, pt_truth p (plainT_eq hx), fun σ H σu M Qu Q rs S hf c => ?_⟩
  exact q σ H σu M _ _ rs S hf fun v H' u M' st S' r hq => tru_of ⟨u, M', Qu, S', r, hq, c.tr S st⟩
theorem se_int {i : Int} {k : Nat} {pos : Pos} : SE1 X (fun _ M Q => Q (.int i) M) (.Constant (.int i) k pos) := ⟨_, pe_int, fun _ _ _ _ _ _ _ S q c => c.at_ S (.int i) q⟩
theorem se_str {i : Str} {k : Nat} {pos : Pos} : SE1 X (fun _ M Q => Q (.str i) M) (.Constant (.str i) k pos) := ⟨_, pe_str, fun _ _ _ _ _ _ _ S q c => c.at_ S (.str i) q⟩
theorem se_bl {i : Bool} {k : Nat} {pos : Pos} : SE1 X (fun _ M Q => Q (.bl i) M) (.Constant (.bool i) k pos) := ⟨_, pe_bl, fun _ _ _ _ _ _ _ S q c => c.at_ S (.bl i) q⟩
theorem se_non {k : Nat} {pos : Pos} : SE1 X (fun _ M Q => Q .non M) (.Constant .none k pos) := ⟨_, pe_non, fun _ _ _ _ _ _ _ S q c => c.at_ S .non q⟩
theorem sa_nil : SA X (fun _ M Q => Q [] M) [] := ⟨_, pa_nil, fun _ H _ M _ _ _ S q c => c _ _ _ _ (Stp.refl H M) S .nil q⟩
def isStar : Expr → Bool
  | .Starred .. => true
  | _ => false
theorem star_cons {e : Expr} {es : List Expr} {env : Env} (h : isStar e = false) : starEach (e :: es) env = (false, eval e env) :: starEach es env := by
  cases e <;> first | (cases h; done) | rfl
theorem star_plain {env : Env} {pos : Pos} : ∀ {es : List Expr}, es.all (fun e => !isStar e) = true → (backTo pos (starEach es env)).any (·.1) = false
  | [], _ => rfl
  | e :: es, h => by
    rw [List.all_cons, Bool.and_eq_true] at h
    have h1 : isStar e = false := by simpa using h.1
    rw [star_cons h1]
    exact star_plain (es := es) h.2
theorem sa_cons {e : Expr} {es : List Expr} {f : WE} {g : WL} (hs : isStar e = false) (h1 : SE1 X f e) (h2 : SA X g es) : SA X (fun σ M Q => f σ M fun x M1 => g σ M1 fun xs M2 => Q (x :: xs) M2) (e :: es) := by
  obtain ⟨t1, p1, q1⟩ := h1
  obtain ⟨t2, p2, q2⟩ := h2
  refine ⟨_, pa_cons p1 p2 (star_cons hs), fun σ H σu M Qu Q rs S hf c => ?_⟩
  refine q1 σ H σu M _ _ rs S hf fun v H1 u M1 st S1 r hq => ?_
  refine q2 σ H1 σu M1 _ _ (rs.stp S st) S1 hq fun vs H2 us M2 st2 S2 rl hq2 => ?_
  exact c _ _ _ _ (st.trans S st2) S2 (.cons (r.stp S1 st2) rl) hq2
theorem se_tup {es : List Expr} {g : WL} {k : Nat} {pos : Pos} (h : SA X g es) : SE1 X (fun σ M Q => g σ M fun xs M1 => xs.length ≤ LIM ∧ Q (.tup xs) M1) (.Tuple es k pos) := by
  obtain ⟨t, p, q⟩ := h
  refine ⟨_, pe_tup p, fun σ H σu M Qu Q rs S hf c => ?_⟩
  refine q σ H σu M _ _ rs S hf fun vs H1 us M1 st S1 r hq => ?_
  exact ⟨by rw [r.length]; exact le_line hq.1, fun n hn => (c.tr S st).tup S1 r hq.2 hn⟩
/-- a written tuple, of which is known that it has no dict -/
def tTupD (t : TA) : TE := fun σ H Q => t σ H fun xs H1 => xs.length ≤ sizeLine ∧ ∀ p o, H1 p = none → o.dict = none → o.slots = #[] → Q (.ref p) (upd H1 p (.frz o (.tup xs)))
theorem pe_tupD {es : List Expr} {t : TA} {pos : Pos} {x1} (h : PA X es t) : PE X (.Tuple es x1 pos) (tTupD t) := by
  refine ⟨fun pins s σ H Q I hq => ?_⟩
  refine wpAny_Tuple_spliced (thn (h.run pos pins s σ H _ I hq) fun us s1 ⟨xs, H1, I1, r, z, q⟩ => ⟨by rw [← r.length]; exact z, ?_⟩)
  have hf : H1 s1.heap.objs.size = none := I1.hok.fresh (Nat.le_refl _)
  refine ⟨.ref s1.heap.objs.size, upd H1 s1.heap.objs.size (.frz { cls := .type "tuple", data := .seq us.toArray } (.tup xs)), I1.laid (t' := s1.toks) (fun b u e => Heap.get?_push_of_some _ e) (Nat.le_refl _) ?_, rfl, q _ _ hf rfl rfl⟩
  exact ⟨Heap.get?_push_size _ rfl, z, us, r, PyProof.Rows.IsTup.new _ _⟩
theorem se_dtup {es : List Expr} {g : WL} {k : Nat} {pos : Pos} (h : SA X g es) : SE1 X (fun σ M Q => g σ M fun xs M1 => xs.length ≤ LIM ∧ Q (.dtp xs) M1) (.Tuple es k pos) := by
  obtain ⟨t, p, q⟩ := h
  refine ⟨_, pe_tupD p, fun σ H σu M Qu Q rs S hf c => ?_⟩
  refine q σ H σu M _ _ rs S hf fun vs H1 us M1 st S1 r hq => ?_
  refine ⟨by rw [r.length]; exact le_line hq.1, fun n o hn ho ho2 => ?_⟩
  have st2 : Stp H1 M1 (upd H1 n (.frz o (.tup vs))) M1 := Stp.newT S1 hn
  have S2 : Sim (kwX X) (upd H1 n (.frz o (.tup vs))) M1 := S1.to st2 fun a o' e => .inl ⟨e, upd_ne fun z => by
    have q := S1.fr hn
    rw [z, q] at e
    cases e⟩
  exact c _ _ (.dtp us) M1 (st.trans S st2) S2 (.dtp (.inl ⟨_, upd_same, ho, ho2⟩) (r.stp S1 st2)) hq.2
theorem se_lst {es : List Expr} {g : WL} {pos : Pos} (h : SA X g es) : SE1 X (fun σ M Q => g σ M fun xs M1 => xs.length ≤ LIM ∧ ∀ p, M1 p = none → Q (.ref p) (um M1 p (.lst xs))) (.List es pos) := by
  obtain ⟨t, p, q⟩ := h
  refine ⟨_, pe_lst p, fun σ H σu M Qu Q rs S hf c => ?_⟩
  refine q σ H σu M _ _ rs S hf fun vs H1 us M1 st S1 r hq => ?_
  exact ⟨by rw [r.length]; exact le_line hq.1, fun n hn => (c.tr S st).lst S1 r hq.2 hn⟩
theorem se_dnew {t : Bool} {pos : Pos} : SE1 X (fun _ M Q => ∀ p, M p = none → Q (.ref p) (um M p (.dct false t []))) (.Dict [] [] pos) := by
  cases t with
  | false =>
    refine ⟨_, pe_dnewK, fun σ H σu M Qu Q rs S hf c p hp => ?_⟩
    exact c _ _ (.ref p) _ (Stp.new S hp) (S.new (m := .dct false false []) hp ⟨[], upd_same, .nil⟩) (.ref p) (hf p (S.fr hp))
  | true =>
    refine ⟨_, pe_dnewT, fun σ H σu M Qu Q rs S hf c p hp => ?_⟩
    exact c _ _ (.ref p) _ (Stp.new S hp) (S.new (m := .dct false true []) hp ⟨[], upd_same, .nil⟩) (.ref p) (hf p (S.fr hp))
theorem se_dnewN {pos : Pos} : SE1 X (fun _ M Q => ∀ p, M p = none → Q (.ref p) (um M p (.dcn []))) (.Dict [] [] pos) := by
  refine ⟨_, pe_dnewN, fun σ H σu M Qu Q rs S hf c p hp hs => ?_⟩
  exact c _ _ (.ref p) _ (Stp.new S hp) (S.new (m := .dcn []) hp ⟨[], upd_same, .nil, hs, Nat.zero_le _⟩) (.ref p) (hf p (S.fr hp))
theorem two {f g : WE} {ta tb : TE} (q1 : EvE (kwX X) ta f) (q2 : EvE (kwX X) tb g) {h : U → U → Hm → QU → Prop} : EvE (kwX X) (tOp (R2s (kwX X) h) ta tb) (fun σ M Q => f σ M fun x M1 => g σ M1 fun y M2 => h x y M2 Q) := fun σ H σu M Qu Q rs S hf c => by
  refine q1 σ H σu M _ _ rs S hf fun v H1 u M1 st S1 r hq => ?_
  refine q2 σ H1 σu M1 _ _ (rs.stp S st) S1 hq fun v2 H2 u2 M2 st2 S2 r2 hq2 => ?_
  exact ⟨u, u2, M2, Qu, S2, r.stp S1 st2, r2, hq2, c.tr S (st.trans S st2)⟩
theorem se_bin {op : Bop} {a b : Expr} {f g : WE} {pos : Pos} (h1 : SE1 X f a) (h2 : SE1 X g b) : SE1 X (fun σ M Q => f σ M fun x M1 => g σ M1 fun y M2 => binW op x y M2 Q) (.BinOp a (bopOf op) b pos) := by
  obtain ⟨t1, p1, q1⟩ := h1
  obtain ⟨t2, p2, q2⟩ := h2
  exact ⟨_, pe_op (op_binS op) p1 p2, two q1 q2⟩
theorem se_neg {a : Expr} {f : WE} {pos : Pos} (h1 : SE1 X f a) : SE1 X (fun σ M Q => f σ M fun x M1 => ∃ i, x = .int i ∧ Q (.int (-i)) M1) (.UnaryOp .USub a pos) := by
  obtain ⟨t1, p1, q1⟩ := h1
  refine ⟨_, pe_un un_neg p1, fun σ H σu M Qu Q rs S hf c => ?_⟩
  refine q1 σ H σu M _ _ rs S hf fun v H1 u M1 st S1 r hq => ?_
  obtain ⟨i, rfl, q⟩ := hq
  cases r
  exact ⟨i, rfl, (c.tr S st).at_ S1 (.int _) q⟩
theorem bl_same {Qu : Bool → Hm → Prop} : (fun (b : Bool) (M1 : Hm) => ∃ b', U.bl b = .bl b' ∧ Qu b' M1) = Qu := by
  funext b M1
  exact propext ⟨fun ⟨b', e, q⟩ => by cases e; exact q, fun q => ⟨b, rfl, q⟩⟩
/-- from a value that is a bool to a test -/
theorem ev_test {f : WT} {t : TE} (q : EvE (kwX X) t (fun σ M Q => f σ M fun b M1 => Q (.bl b) M1)) : EvT (kwX X) (tTest t) f := fun σ H σu M Qu Q rs S hf c => by
  refine q σ H σu M (fun u M' => ∃ b, u = .bl b ∧ Qu b M') _ rs S ?_ fun v H' u M' st S' r hq => ?_
  · show f σu M (fun (b : Bool) (M1 : Hm) => ∃ b', U.bl b = .bl b' ∧ Qu b' M1)
    rw [bl_same]
    exact hf
  · obtain ⟨b, rfl, hq⟩ := hq
    cases r
    exact ⟨b, rfl, c _ _ _ st S' hq⟩
theorem se_cmp {op : Cop} {a b : Expr} {f g : WE} {pos : Pos} (hu : X.A.units + 66 < cLine) (h1 : SE1 X f a) (h2 : SE1 X g b) (hm : behindInMarks (copOf op) b = false) :
    SE X (.ofB fun σ M Q => f σ M fun x M1 => g σ M1 fun y M2 => cmpW op x y M2 Q) (.Compare a [copOf op] [b] pos) := by
  obtain ⟨t1, p1, q1⟩ := h1
  obtain ⟨t2, p2, q2⟩ := h2
  have ev : EvE (kwX X) (tOp (R2s (kwX X) (asB (cmpW op))) t1 t2) (fun σ M Q => f σ M fun x M1 => g σ M1 fun y M2 => cmpW op x y M2 fun b M => Q (.bl b) M) := two q1 q2
  exact ⟨⟨_, pe_cmpR (op_cmpS hu op) p1 p2 hm, ev⟩, ⟨_, pt_cmpR (op_cmpS hu op) p1 p2 hm, ev_test ev⟩⟩
theorem se_chain {o1 o2 : Cop} {a b d : Expr} {f g h : WE} {pos : Pos} (hu : X.A.units + 66 < cLine) (h1 : SE1 X f a) (h2 : SE1 X g b) (h3 : SE1 X h d) (hm : lastMarks [copOf o1, copOf o2] [b, d] = false) :
    SE X (.ofB fun σ M Q => f σ M fun x M1 => g σ M1 fun y M2 => cmpW o1 x y M2 fun k M3 => if k = true then h σ M3 fun z M4 => cmpW o2 y z M4 Q else Q false M3) (.Compare a [copOf o1, copOf o2] [b, d] pos) := by
  obtain ⟨t1, p1, q1⟩ := h1
  obtain ⟨t2, p2, q2⟩ := h2
  obtain ⟨t3, p3, q3⟩ := h3
  have ev : EvE (kwX X) (tChain (R2s (kwX X) (asB (cmpW o1))) (R2s (kwX X) (asB (cmpW o2))) t1 t2 t3) (fun σ M Q => f σ M fun x M1 => g σ M1 fun y M2 => cmpW o1 x y M2 fun k M3 => if k = true then h σ M3 fun z M4 => cmpW o2 y z M4 fun b M => Q (.bl b) M else Q (.bl false) M3) := fun σ H σu M Qu Q rs S hf c => by
    refine q1 σ H σu M _ _ rs S hf fun v H1 u M1 st S1 r hq => ?_
    refine q2 σ H1 σu M1 _ _ (rs.stp S st) S1 hq fun v2 H2 u2 M2 st2 S2 r2 hq2 => ?_
    refine ⟨u, u2, M2, fun b' M3 => ∃ k, b' = .bl k ∧ (if k = true then h σu M3 fun z M4 => cmpW o2 u2 z M4 fun b M => Qu (.bl b) M else Qu (.bl false) M3), S2, r.stp S1 st2, r2, ?_, ?_⟩
    · have e : (fun (k : Bool) (M3 : Hm) => ∃ k', U.bl k = .bl k' ∧ (if k' = true then h σu M3 fun z M4 => cmpW o2 u2 z M4 fun b M => Qu (.bl b) M else Qu (.bl false) M3)) = (fun k M3 => if k = true then h σu M3 fun z M4 => cmpW o2 u2 z M4 fun b M => Qu (.bl b) M else Qu (.bl false) M3) := by
        funext k M3
        exact propext ⟨fun ⟨k', e, q⟩ => by cases e; exact q, fun q => ⟨k, rfl, q⟩⟩
      show cmpW o1 u u2 M2 _
      rw [e]
      exact hq2
    · intro v3 H3 u3 M3 st3 S3 r3 hq3
      obtain ⟨k, rfl, hq3⟩ := hq3
      cases r3
      refine ⟨k, rfl, ?_⟩
      cases k with
      | false => exact c _ _ _ _ ((st.trans S st2).trans S st3) S3 (.bl _) hq3
      | true =>
        refine q3 σ H3 σu M3 _ _ (rs.stp S ((st.trans S st2).trans S st3)) S3 hq3 fun v4 H4 u4 M4 st4 S4 r4 hq4 => ?_
        exact ⟨u2, u4, M4, Qu, S4, (r2.stp S2 st3).stp S3 st4, r4, hq4, c.tr S (((st.trans S st2).trans S st3).trans S st4)⟩
  refine ⟨⟨_, pe_chain (op_cmpS hu o1) (op_cmpS hu o2) p1 p2 p3 hm, ?_⟩, ⟨_, pt_chain (op_cmpS hu o1) (op_cmpS hu o2) p1 p2 p3 hm, ev_test ?_⟩⟩
  · intro σ H σu M Qu Q rs S hf c
    exact ev σ H σu M Qu Q rs S hf c
  · intro σ H σu M Qu Q rs S hf c
    exact ev σ H σu M Qu Q rs S hf c
theorem rel_non {K : Kw} {H : Hp} {v : V} {u : U} (r : Rel K H v u) : decide (v = .non) = decide (u = .non) := by
  cases r <;> simp
theorem ev_isN {f : WE} {t : TE} (q1 : EvE (kwX X) t f) : EvE (kwX X) (tIsN t) (fun σ M Q => f σ M fun x M1 => Q (.bl (decide (x = .non))) M1) := fun σ H σu M Qu Q rs S hf c => by
  refine q1 σ H σu M _ _ rs S hf fun v H1 u M1 st S1 r hq => ?_
  rw [rel_non r]
  exact c _ _ _ _ st S1 (.bl _) hq
theorem ev_notN {f : WE} {t : TE} (q1 : EvE (kwX X) t f) : EvE (kwX X) (tNotN t) (fun σ M Q => f σ M fun x M1 => Q (.bl (!decide (x = .non))) M1) := fun σ H σu M Qu Q rs S hf c => by
  refine q1 σ H σu M _ _ rs S hf fun v H1 u M1 st S1 r hq => ?_
  rw [rel_non r]
  exact c _ _ _ _ st S1 (.bl _) hq
theorem se_isN {a : Expr} {f : WE} {k : Nat} {p1 pos : Pos} (h1 : SE1 X f a) : SE X (.ofB fun σ M Q => f σ M fun x M1 => Q (decide (x = .non)) M1) (.Compare a [.Is] [.Constant .none k p1] pos) := by
  obtain ⟨t1, p1, q1⟩ := h1
  exact ⟨⟨_, pe_cmp (pc_isN p1) rfl, ev_isN q1⟩, ⟨_, pt_cmp (pc_isN p1) rfl, ev_test (f := fun σ M Q => f σ M fun x M1 => Q (decide (x = .non)) M1) (ev_isN q1)⟩⟩
theorem se_notN {a : Expr} {f : WE} {k : Nat} {p1 pos : Pos} (h1 : SE1 X f a) : SE X (.ofB fun σ M Q => f σ M fun x M1 => Q (!decide (x = .non)) M1) (.Compare a [.IsNot] [.Constant .none k p1] pos) := by
  obtain ⟨t1, p1, q1⟩ := h1
  exact ⟨⟨_, pe_cmp (pc_notN p1) rfl, ev_notN q1⟩, ⟨_, pt_cmp (pc_notN p1) rfl, ev_test (f := fun σ M Q => f σ M fun x M1 => Q (!decide (x = .non)) M1) (ev_notN q1)⟩⟩
theorem se_isB {neg b : Bool} {a : Expr} {f : WE} {k : Nat} {p1 pos : Pos} (h1 : SE1 X f a) :
    SE X (.ofB fun σ M Q => f σ M fun x M1 => ∃ c, x = .bl c ∧ Q (if neg then !decide (c = b) else decide (c = b)) M1) (.Compare a [if neg then .IsNot else .Is] [.Constant (.bool b) k p1] pos) := by
  obtain ⟨t1, p1, q1⟩ := h1
  cases neg with
  | false =>
    have ev : EvE (kwX X) (tOp rIsB t1 (tC (.bl b))) (fun σ M Q => f σ M fun x M1 => ∃ c, x = .bl c ∧ Q (.bl (decide (c = b))) M1) := fun σ H σu M Qu Q rs S hf c => by
      refine q1 σ H σu M _ _ rs S hf fun v H1 u M1 st S1 r hq => ?_
      obtain ⟨d, rfl, q⟩ := hq
      cases r
      exact ⟨d, b, rfl, rfl, c _ _ _ _ st S1 (.bl _) q⟩
    exact ⟨⟨_, pe_cmpR op_isBl p1 pe_bl (nomark _), ev⟩, ⟨_, pt_cmpR op_isBl p1 pe_bl (nomark _), ev_test (f := fun σ M Q => f σ M fun x M1 => ∃ c, x = .bl c ∧ Q (decide (c = b)) M1) ev⟩⟩
  | true =>
    have ev : EvE (kwX X) (tOp rNotB t1 (tC (.bl b))) (fun σ M Q => f σ M fun x M1 => ∃ c, x = .bl c ∧ Q (.bl (!decide (c = b))) M1) := fun σ H σu M Qu Q rs S hf c => by
      refine q1 σ H σu M _ _ rs S hf fun v H1 u M1 st S1 r hq => ?_
      obtain ⟨d, rfl, q⟩ := hq
      cases r
      exact ⟨d, b, rfl, rfl, c _ _ _ _ st S1 (.bl _) q⟩
    exact ⟨⟨_, pe_cmpR op_notBl p1 pe_bl (nomark _), ev⟩, ⟨_, pt_cmpR op_notBl p1 pe_bl (nomark _), ev_test (f := fun σ M Q => f σ M fun x M1 => ∃ c, x = .bl c ∧ Q (!decide (c = b)) M1) ev⟩⟩
theorem se_not {a : Expr} {W : Wp} {pos : Pos} (h : SE X W a) : SE X ⟨fun σ M Q => W.e σ M fun x M1 => truW x M1 fun b M2 => Q (.bl (!b)) M2, fun σ M Q => W.t σ M fun b M1 => Q (!b) M1, fun _ _ _ => False, fT, fT, fE, fE, fI⟩ (.UnaryOp .Not a pos) := by
  obtain ⟨⟨t1, p1, q1⟩, ⟨t2, p2, q2⟩⟩ := h
  refine ⟨⟨_, pe_notT p1, fun σ H σu M Qu Q rs S hf c => ?_⟩, ⟨_, pt_not p2, fun σ H σu M Qu Q rs S hf c => ?_⟩⟩
  · exact q1 σ H σu M _ _ rs S hf fun v H1 u M1 st S1 r hq => tru_of (Q := fun b H => Q (.bl (!b)) H) ⟨u, M1, fun b M2 => Qu (.bl (!b)) M2, S1, r, hq, fun b H' M' st' S' q' => c _ _ _ _ (st.trans S st') S' (.bl _) q'⟩
  · exact q2 σ H σu M _ _ rs S hf fun b H1 M1 st S1 hq => c _ _ _ st S1 hq
theorem se_ite {c0 a b : Expr} {fc : WT} {f g : WE} {pos : Pos} (hc : ST X fc c0) (h1 : SE1 X f a) (h2 : SE1 X g b) :
    SE1 X (fun σ M Q => fc σ M fun k M1 => if k = true then f σ M1 Q else g σ M1 Q) (.IfExp c0 a b pos) := by
  obtain ⟨t0, p0, q0⟩ := hc
  obtain ⟨t1, p1, q1⟩ := h1
  obtain ⟨t2, p2, q2⟩ := h2
  refine ⟨_, pe_ifExp p0 p1 p2, fun σ H σu M Qu Q rs S hf c => ?_⟩
  refine q0 σ H σu M _ _ rs S hf fun k H1 M1 st S1 hq => ?_
  cases k with
  | true => exact q1 σ H1 σu M1 Qu Q (rs.stp S st) S1 hq (c.tr S st)
  | false => exact q2 σ H1 σu M1 Qu Q (rs.stp S st) S1 hq (c.tr S st)
def notSlice : Expr → Bool
  | .Slice .. => false
  | _ => true
theorem plainIx_of {e : Expr} (h : notSlice e = true) : PlainIx e := fun o i => by
  cases e <;> first | (cases h; done) | rfl
theorem se_ix {a b : Expr} {f g : WE} {pos : Pos} (hu : X.A.units + 66 < cLine) (hs : notSlice b = true) (h1 : SE1 X f a) (h2 : SE1 X g b) : SE1 X (fun σ M Q => f σ M fun x M1 => g σ M1 fun y M2 => ixW x y M2 Q) (.Subscript a b pos) := by
  obtain ⟨t1, p1, q1⟩ := h1
  obtain ⟨t2, p2, q2⟩ := h2
  exact ⟨_, pe_ix (ix_S hu) p1 p2 (plainIx_of hs), two q1 q2⟩
theorem so_none : SO X (fun _ M Q => Q none M) none := ⟨_, po_none, fun σ H σu M Qu Q rs S hf c => c _ _ _ (Stp.refl H M) S hf⟩
theorem so_some {e : Expr} {f : WE} (h : SE1 X f e) : SO X (fun σ M Q => f σ M fun x M1 => ∃ i, x = .int i ∧ Q (some i) M1) (some e) := by
  obtain ⟨t, p, q⟩ := h
  refine ⟨_, po_some p, fun σ H σu M Qu Q rs S hf c => ?_⟩
  refine q σ H σu M _ _ rs S hf fun v H1 u M1 st S1 r hq => ?_
  obtain ⟨i, rfl, q⟩ := hq
  cases r
  exact ⟨i, rfl, c _ _ _ st S1 q⟩
theorem se_slice {a : Expr} {lo hi : Option Expr} {f : WE} {g h : WO} {p2 pos : Pos} (h1 : SE1 X f a) (h2 : SO X g lo) (h3 : SO X h hi) :
    SE1 X (fun σ M Q => f σ M fun x M1 => g σ M1 fun l M2 => h σ M2 fun u M3 => sliceW x l u M3 Q) (.Subscript a (.Slice lo hi none p2) pos) := by
  obtain ⟨t1, p1, q1⟩ := h1
  obtain ⟨t2, p2, q2⟩ := h2
  obtain ⟨t3, p3, q3⟩ := h3
  refine ⟨_, pe_slice sl_S p1 p2 p3, fun σ H σu M Qu Q rs S hf c => ?_⟩
  refine q1 σ H σu M _ _ rs S hf fun v H1 u M1 st S1 r hq => ?_
  refine q2 σ H1 σu M1 _ _ (rs.stp S st) S1 hq fun l H2 M2 st2 S2 hq2 => ?_
  refine q3 σ H2 σu M2 _ _ (rs.stp S (st.trans S st2)) S2 hq2 fun l3 H3 M3 st3 S3 hq3 => ?_
  exact ⟨u, M3, Qu, S3, (r.stp S1 st2).stp S2 st3, hq3, c.tr S ((st.trans S st2).trans S st3)⟩
/-- the promise of a def, said by values -/
def spOf (K : Kw) (g : List U → Hm → QU → Prop) : Sp := fun vs H Q _ => CRs K g vs H Q
theorem ev_call {g : WL} {t : TA} {r : List V → Hp → VK → Prop} {k : List U → Hm → QU → Prop} (q : EvL (kwX X) t g) (hr : ∀ vs H Q, CRs (kwX X) k vs H Q → r vs H Q) : EvE (kwX X) (fun σ H Q => t σ H fun vs H1 => r vs H1 Q) (fun σ M Q => g σ M fun xs M1 => k xs M1 Q) := fun σ H σu M Qu Q rs S hf c => by
  refine q σ H σu M _ _ rs S hf fun vs H1 us M1 st S1 r1 hq => ?_
  exact hr _ _ _ ⟨us, M1, Qu, S1, r1, hq, c.tr S st⟩
theorem se_blt {f : Bfn} {v : Value} {x : Str} {e : Expr} {es : List Expr} {g : WL} {p pos : Pos} (hc : X.calm = true) (hu : X.A.units + 66 < cLine) (hb : bfnV f = some v) (hg : Gl X x) (hm : X.mg x = none) (hv : bootBuiltins x = some v) (hn : x ≠ "__name__") (hdb : (x == ("__debug__" : Str)) = false)
    (hs : (e :: es).all (fun e => !isStar e) = true) (h : SA X g (e :: es)) : SE1 X (fun σ M Q => g σ M fun xs M1 => bltW f xs M1 Q) (.Call (.Name x p) (e :: es) [] pos) := by
  obtain ⟨t, pt, q⟩ := h
  have hs2 : isStar e = false ∧ es.all (fun e => !isStar e) = true := by
    rw [List.all_cons, Bool.and_eq_true] at hs
    exact ⟨by simpa using hs.1, hs.2⟩
  have hr := cr_S (X := X) hc hu hb
  have bl : ∀ id, v = .builtin id → SE1 X (fun σ M Q => g σ M fun xs M1 => bltW f xs M1 Q) (.Call (.Name x p) (e :: es) [] pos) := fun id ev => by
    subst ev
    exact ⟨_, pe_callB hr hg hm hv pt hn hdb (star_cons hs2.1) (star_plain hs2.2), ev_call q fun _ _ _ z => z⟩
  have ty : ∀ id, v = .type id → SE1 X (fun σ M Q => g σ M fun xs M1 => bltW f xs M1 Q) (.Call (.Name x p) (e :: es) [] pos) := fun id ev => by
    subst ev
    exact ⟨_, pe_callTy hr hg hm hv pt hn hdb (star_cons hs2.1) (star_plain hs2.2), ev_call q fun _ _ _ z => z⟩
  cases f <;> first | (cases hb; done) | (cases hb; first | exact bl _ rfl | exact ty _ rfl)
theorem se_call {k : Nat} {f : Addr} {fd : FuncData} {ps : List Str} {x : Str} {e : Expr} {es : List Expr} {g : WL} {c : List U → Hm → QU → Prop} {p pos : Pos} (F : FnOk X.prog X.w (kwX X) X.mg X.base CX0 k f fd ps (spOf (kwX X) c)) (hr : Room k X.A) (hg : Gl X x) (hm : X.mg x = some (.ref f))
    (hk : PySem.W.keepIn (kwX X) (.ref f) = true) (hb : Binds (kwX X) fd ps []) (hdb : (x == ("__debug__" : Str)) = false) (hs : (e :: es).all (fun e => !isStar e) = true) (h : SA X g (e :: es)) :
    SE1 X (fun σ M Q => g σ M fun xs M1 => c xs M1 Q) (.Call (.Name x p) (e :: es) [] pos) := by
  obtain ⟨t, pt, q⟩ := h
  have hs2 : isStar e = false ∧ es.all (fun e => !isStar e) = true := by
    rw [List.all_cons, Bool.and_eq_true] at hs
    exact ⟨by simpa using hs.1, hs.2⟩
  refine ⟨_, pe_call F hr hg hm hk hb .nil pass0 pt hdb (star_cons hs2.1) (star_plain hs2.2), fun σ H σu M Qu Q rs S hf ct => ?_⟩
  refine q σ H σu M _ _ rs S hf fun vs H1 us M1 st S1 r1 hq => ?_
  rw [List.append_nil]
  exact ⟨us, M1, Qu, S1, r1, hq, ct.tr S st⟩
theorem se_call0 {k : Nat} {f : Addr} {fd : FuncData} {ps : List Str} {x : Str} {c : List U → Hm → QU → Prop} {p pos : Pos} (F : FnOk X.prog X.w (kwX X) X.mg X.base CX0 k f fd ps (spOf (kwX X) c)) (hr : Room k X.A) (hg : Gl X x) (hm : X.mg x = some (.ref f))
    (hk : PySem.W.keepIn (kwX X) (.ref f) = true) (hb : Binds (kwX X) fd ps []) (hdb : (x == ("__debug__" : Str)) = false) :
    SE1 X (fun σ M Q => c [] M Q) (.Call (.Name x p) [] [] pos) :=
  ⟨_, pe_call0 F hr hg hm hk hb .nil pass0 hdb, fun σ H σu M Qu Q rs S hf ct => ⟨[], M, Qu, S, .nil, hf, ct⟩⟩
end
end Pl

set_option maxHeartbeats 400000
/-! enumerate over a list or a tuple -/
namespace Pl
section
open PySem PySem.W PySem.W.X PyProof.Rows L2
theorem wp_pure_eq {α : Type} {M : Model} {A : Around} {Q : α → Shared → Prop} {E : Value → Shared → Prop} {s : Shared} {m : Sem α} {a : α} (h : m = pure a) (q : Q a s) : wpAny M A m Q E s := by
  rw [h]
  exact wpAny_pure q
theorem wp_ite_any {α : Type} {M : Model} {A : Around} {Q : α → Shared → Prop} {E : Value → Shared → Prop} {s : Shared} {b : Bool} {t e : Sem α} (h1 : wpAny M A t Q E s) (h2 : wpAny M A e Q E s) : wpAny M A (if b = true then t else e) Q E s := by
  cases b
  · exact h2
  · exact h1
theorem meets_enumB {v : Value} {o : Obj} {H : Heap → Prop} (B : Begins v o H) : Meets (Builtin.«enumerate.__new__» { pos := [Value.type "enumerate", v] }) fun x R s => H s.heap ∧ R (.ok (.ret (.ref (s.heap.push o).objs.size))) { s with heap := (s.heap.push o).push ⟨.type "enumerate", none, .fields #[Value.none, Value.bool false, Value.ref s.heap.objs.size, rawInt 0, Value.none, Value.none], #[]⟩ } := by
  refine Meets.of_wp fun prog w A R s h => ?_
  obtain ⟨h1, h⟩ := h
  refine wpAny_bind (wpAny_bind (wpAny_pure (wpAny_ite_false (Eq.refl _) (wpAny_bind (wpAny_of_eq sub_enumerate (wpAny_ite_false (Eq.refl _) (wpAny_pure (wpAny_ite_true (Eq.refl _) (wpAny_bind (wpAny_bind (wpAny_stack_any fun st => wpAny_pure ?_)))))))))))
  refine wp_ite_any ?_ ?_
  · refine wpAny_bind ?_
    refine wp_pure_eq (a := (v, none)) rfl ?_
    refine wpAny_bind ?_
    refine B.iter _ _ _ _ _ _ h1 ?_
    refine wpAny_bind ?_
    unfold Builtin.SmallTypes.newRecord newObj
    apply wpAny_ite_false
    · exact rfl
    refine wpAny_bind ?_
    refine wpAny_alloc' ?_
    refine wpAny_pure ?_
    refine wpAny_pure ?_
    exact ⟨_, rfl, h⟩
  · refine wpAny_bind ?_
    refine wp_pure_eq (a := (v, none)) rfl ?_
    refine wpAny_bind ?_
    refine B.iter _ _ _ _ _ _ h1 ?_
    refine wpAny_bind ?_
    unfold Builtin.SmallTypes.newRecord newObj
    apply wpAny_ite_false
    · exact rfl
    refine wpAny_bind ?_
    refine wpAny_alloc' ?_
    refine wpAny_pure ?_
    refine wpAny_pure ?_
    exact ⟨_, rfl, h⟩
theorem call_enumB {prog : Program} {w : World} {A : Around} {E : Value → Shared → Prop} {s : Shared} {v : Value} {o : Obj} {H : Heap → Prop} {Q : Value → Shared → Prop} (B : Begins v o H) (h1 : H s.heap)
    (h : ∀ h' : Heap, IsEnum h' (s.heap.objs.size + 1) s.heap.objs.size 0 Value.none → h'.get? s.heap.objs.size = some o → h'.objs.size = s.heap.objs.size + 2 → (∀ (b : Addr) (o : Obj), s.heap.get? b = some o → h'.get? b = some o) → Q (Value.ref (s.heap.objs.size + 1)) { s with heap := h' }) :
    wpAny (model prog w) A (call (Value.type "enumerate") [v]) Q E s := by
  refine callType_new F.called_enumerate (of_decide_eq_true (id (Eq.refl true))) (F.typeCall_enumerate_1 v) (F.newCall_enumerate_1 v) (fun obj => F.args_object_init_2 obj v) F.entry_enumerate_new (meets_enumB B) ⟨h1, ?_⟩
  have hz := Heap.size_push s.heap o
  have he := Heap.get?_push_size (s.heap.push o) (o := ⟨.type "enumerate", none, .fields #[Value.none, Value.bool false, Value.ref s.heap.objs.size, rawInt 0, Value.none, Value.none], #[]⟩) rfl
  show Shared.TypeIs _ (Value.ref (s.heap.push o).objs.size) "enumerate" ∧ Q (Value.ref (s.heap.push o).objs.size) _
  rw [hz] at he ⊢
  refine ⟨⟨_, he, rfl⟩, h _ he (Heap.get?_push_of_some _ (Heap.get?_push_size s.heap B.free)) ?_ fun b o' x => Heap.get?_push_of_some _ (Heap.get?_push_of_some _ x)⟩
  rw [Heap.size_push, hz]
/-- the walk over a tuple by enumerate -/
def IteT (K : Frag) (a : Addr) : It := ⟨fun i H => ∃ xs x, SqT K H a xs ∧ xs[i]? = some x, fun i H v H' => ∃ (T : Addr) (x : V), v = V.ref T ∧ H T = none ∧ H' = upd H T (.tup [.int (i : Nat), x]) ∧ ∀ xs, SqT K H a xs → xs[i]? = some x, fun i H => ∃ xs, SqT K H a xs ∧ xs.length = i⟩
theorem turn_enumT {P : Program} {w : World} {K : Frag} {elts : List Expr} {kk : Nat} {tpos : Pos} (a e it : Addr) : Turn P w K (.Tuple elts kk tpos) (IteT K a) [e, it] e (fun i h => (∃ old, IsEnum h e it (i : Nat) old) ∧ h.IsTupleIter it a i ∧ e ≠ it ∧ e ≠ a ∧ it ≠ a) := by
  refine ⟨by simp, ?_, ?_, ?_, ?_, ?_⟩
  · intro i h ⟨⟨old, he⟩, ⟨o, ho, hc, hd⟩, _⟩ b hb
    rcases List.mem_cons.mp hb with hb | hb
    · subst hb; exact ⟨_, he, fun v q => nomatch q⟩
    · rw [List.mem_singleton] at hb; subst hb; exact ⟨o, ho, fun v q => by rw [hd] at q; cases q⟩
  · intro i h h' ⟨⟨old, he⟩, ⟨o, ho, hc, hd⟩, n⟩ k
    exact ⟨⟨old, k e (by simp) _ he⟩, ⟨o, k it (by simp) _ ho, hc, hd⟩, n⟩
  · intro X hP hw hK hc i pins s σ H E I hf st hg
    subst hP hw hK
    obtain ⟨⟨old, he⟩, hit, n1, n2, n3⟩ := st
    obtain ⟨xs, x, hq, hx⟩ := hg
    obtain ⟨its, rv, p, hz⟩ := I.tuple hq
    obtain ⟨u, hu, ru⟩ := Vals.get rv hx
    have hi : i < its.toArray.size := by
      rw [List.size_toArray]
      exact (List.getElem?_eq_some_iff.mp hu).1
    have W := WalksT.enumerateD (Draws.tuple (prog := X.prog) (w := X.w) (A := X.A.in1) (I.ok.hd hc) it a n3.symm its.toArray) e n1 (by simp [n1, n2]) (by simp)
    have pt : s.heap.IsTuple a its.toArray := p
    refine W.item i s _ E hi ⟨⟨old, he⟩, hit, pt⟩ fun T vals h' tk ⟨t, x', hx', ev⟩ hT hTup mid old' => ⟨.ref T, rfl, ?_⟩
    refine W.go elts kk tpos i T _ _ E mid fun h'' st'' old'' => ?_
    have ap := W.apart i T h' mid
    have ex' : u = x' := by
      have h2 : its.toArray[i]? = some x' := hx'
      rw [List.getElem?_toArray, hu] at h2
      exact Option.some.inj h2
    subst ex'
    obtain ⟨oT, hoT, hcT, nT, hdT⟩ := hTup
    have hT2 := old'' T oT ap hoT
    subst ev
    have new : ObjOk X.prog X.w (upd H T (.tup [.int (i : Nat), x])) h'' T (.tup [.int (i : Nat), x]) := ⟨of_decide_eq_true (id (Eq.refl true)), [Value.int (i : Nat) t, u], .cons ⟨t, rfl⟩ (.cons ru .nil), oT, hT2, hcT, nT, hdT⟩
    have hel : e < s.heap.objs.size := Heap.lt_size he
    have hil : it < s.heap.objs.size := by obtain ⟨o, ho, _⟩ := hit; exact Heap.lt_size ho
    have I1 := I.turnedNew (h' := h'') (t' := tk) (ch := [e, it]) (fun b ob hb q => old'' b ob hb (old' b ob hb q)) hf hT new
    refine ⟨.ref T, upd H T (.tup [.int (i : Nat), x]), I1, rfl, ⟨T, x, rfl, I.hok.fresh hT, rfl, fun ys hy => by rw [I.tuple_inj hy hq]; exact hx⟩, ?_, fun b hb => ?_⟩
    · exact ⟨st''.1, st''.2.1, n1, n2, n3⟩
    · have hb' : b < s.heap.objs.size := by
        rcases List.mem_cons.mp hb with hb | hb
        · subst hb; exact hel
        · rw [List.mem_singleton] at hb; subst hb; exact hil
      rw [upd_ne (Nat.ne_of_lt (Nat.lt_of_lt_of_le hb' hT))]
      exact (hf b hb).1
  · intro X hP hw hK hc i pins s σ H E I hf st hg
    subst hP hw hK
    obtain ⟨⟨old, he⟩, hit, n1, n2, n3⟩ := st
    obtain ⟨xs, hq, hle⟩ := hg
    obtain ⟨its, rv, p, hz⟩ := I.tuple hq
    have hn : its.toArray.size = i := by rw [List.size_toArray, ← Paired.length rv]; exact hle
    have D := Draws.tuple (prog := X.prog) (w := X.w) (A := X.A.in1) (I.ok.hd hc) it a n3.symm its.toArray
    have pt : s.heap.IsTuple a its.toArray := p
    obtain ⟨f0, f1, f2, f3, f4, f5⟩ := hf it (by simp)
    exact wpAny_pyNext_enum_endD D he (by rw [hn]; exact ⟨hit, pt⟩) fun h' eb => ⟨rfl, I.turned (fun b o hb q => eb b o hb q) f0 f1 f3 f4 f5⟩
  · intro A i s Q E ⟨⟨old, he⟩, _⟩ hQ
    exact wpAny_pyIter_enum he hQ
/-- enumerate over a list or a tuple -/
def iEn (K : Frag) (ta : TA) : TI := fun σ H R => ta σ H fun vs H1 => ∃ a : Addr, vs = [.ref a] ∧ (((∃ xs, SqL K H1 a xs) ∧ R (Ite K a) H1) ∨ ((∃ xs, SqT K H1 a xs) ∧ R (IteT K a) H1))
theorem pi_en {X : Cx} {e : Expr} {ta : TA} {p pos tpos : Pos} {elts : List Expr} {kk : Nat} (hg : Gl X "enumerate") (hm : X.mg "enumerate" = none) (ha : PA X [e] ta) (hs : starEach [e] X.env = [(false, eval e X.env)]) :
    PI X (.Tuple elts kk tpos) (.Call (.Name "enumerate" p) [e] [] pos) (iEn (kwX X) ta) := by
  refine ⟨fun pins s σ H R I h => ?_⟩
  refine Call_ (ld_blt I hg hm boot_enumerate (callWith_type1 (thn (ha.run pos pins s σ H _ I h) fun us s1 ⟨vs, H1, I1, r1, q1⟩ => ?_) hs rfl) (by decide +kernel) (by decide +kernel)) rfl
  obtain ⟨a, rfl, q⟩ := q1
  obtain ⟨u, rfl, ru⟩ := vals1 r1
  obtain rfl : u = Value.ref a := ru
  rcases q with ⟨⟨xs, hx⟩, q⟩ | ⟨⟨xs, hx⟩, q⟩
  · obtain ⟨its, rv, p, hz⟩ := I1.list hx
    refine call_enumerate_list p.isList fun h' he hit hsz hk => wpAny_pyIter_enum he ?_
    have I2 := I1.kept (t' := s1.toks) hk
    refine ⟨_, [s1.heap.objs.size + 1, s1.heap.objs.size], _, Ite (kwX X) a, H1, rfl, I2, turn_enum a _ _, ⟨⟨_, he⟩, hit, Nat.succ_ne_self _⟩, fun b hb => ?_, q⟩
    have hle : s1.heap.objs.size ≤ b := by
      rcases List.mem_cons.mp hb with hb | hb
      · subst hb; exact Nat.le_add_right _ _
      · rw [List.mem_singleton] at hb; subst hb; exact Nat.le_refl _
    exact I1.fpOk hle (I1.hok.fresh hle)
  · obtain ⟨its, rv, p, hz⟩ := I1.tuple hx
    have pt : s1.heap.IsTuple a its.toArray := p
    have ha : a < s1.heap.objs.size := by obtain ⟨o, ho, _⟩ := pt; exact Heap.lt_size ho
    refine call_enumB (begins_tuple a its.toArray) pt fun h' he ho hsz hk => wpAny_pyIter_enum he ?_
    have I2 := I1.kept (t' := s1.toks) hk
    refine ⟨_, [s1.heap.objs.size + 1, s1.heap.objs.size], _, IteT (kwX X) a, H1, rfl, I2, turn_enumT a _ _, ⟨⟨_, he⟩, ⟨_, ho, rfl, rfl⟩, Nat.succ_ne_self _, (Nat.ne_of_lt (Nat.lt_succ_of_lt ha)).symm, (Nat.ne_of_lt ha).symm⟩, fun b hb => ?_, q⟩
    have hle : s1.heap.objs.size ≤ b := by
      rcases List.mem_cons.mp hb with hb | hb
      · subst hb; exact Nat.le_add_right _ _
      · rw [List.mem_singleton] at hb; subst hb; exact Nat.le_refl _
    exact I1.fpOk hle (I1.hok.fresh hle)
end
end Pl

set_option maxHeartbeats 4000000
/-! methods, isinstance, what is walked, comprehensions -/
namespace Pl
open PySem L2
section
variable {X : Cx}
theorem few_args {env : Env} {pos : Pos} {es : List Expr} (h : es.all (fun e => !isStar e) = true) (hl : es.length < 10) :
    ((backTo pos (starEach es env)).all (fun x => !x.1) && (backToKw pos (keywordEach [] env)).all (fun x => x.1.isSome)
      && decide (es.length + ([] : List Keyword).length + (if ([] : List Keyword).isEmpty then 0 else 1) < 30)) = true := by
  have h1 : (backTo pos (starEach es env)).all (fun x => !x.1) = true := by
    have h2 : ∀ es : List Expr, es.all (fun e => !isStar e) = true → (backTo pos (starEach es env)).all (fun x => !x.1) = true := by
      intro es
      induction es with
      | nil => intro _; rfl
      | cons e es ih =>
        intro h
        rw [List.all_cons, Bool.and_eq_true] at h
        rw [star_cons (by simpa using h.1)]
        exact ih h.2
    exact h2 es h
  rw [h1]
  simp [backToKw, keywordEach]
  omega
theorem rcv_ty {K : Kw} {m : Mfn} {T : String} {n : Str} {id : String} {x : V} {u : U} {H : Hp} {M : Hm} (S : Sim K H M) (r : Rel K H x u) (h : mfnT m = some (T, n, id)) (q : rcvW m u M) : tyV K T x H := by
  unfold mfnT at h
  unfold rcvW at q
  split at h <;> first | (cases h; done) | skip
  · cases h
    obtain ⟨p, us, rfl, e⟩ := q
    cases r
    obtain ⟨vs, e2, _⟩ := S _ _ e
    exact .inl ⟨rfl, vs, .inl (.inl e2)⟩
  · cases h
    obtain ⟨p, us, rfl, e⟩ := q
    cases r
    obtain ⟨vs, e2, _⟩ := S _ _ e
    exact .inl ⟨rfl, vs, .inl (.inl e2)⟩
  · cases h
    obtain ⟨p, us, rfl, e⟩ := q
    cases r
    obtain ⟨vs, e2, _⟩ := S _ _ e
    exact .inl ⟨rfl, vs, .inl (.inl e2)⟩
  · cases h
    obtain ⟨p, us, rfl, e⟩ := q
    cases r
    obtain ⟨vs, e2, _⟩ := S _ _ e
    exact .inl ⟨rfl, vs, .inl (.inl e2)⟩
  · cases h
    obtain ⟨p, us, rfl, e⟩ := q
    cases r
    obtain ⟨vs, e2, _⟩ := S _ _ e
    exact .inl ⟨rfl, vs, .inl (.inl e2)⟩
  · cases h
    obtain ⟨s, rfl⟩ := q
    cases r
    exact rfl
  · cases h
    obtain ⟨p, ks, rfl, e⟩ := q
    cases r
    obtain ⟨kvs, e2, _⟩ := S _ _ e
    exact .inr (.inr (.inl ⟨rfl, .inr ⟨kvs, e2⟩⟩))
theorem mt_S (hu : X.A.units + 66 < cLine) (m : Mfn) {T : String} {n : Str} {id : String} (h : mfnT m = some (T, n, id)) : PlainAttrs T ∧ Slot T n id ∧ typeOf (.builtin id) = pure (.type "method_descriptor") ∧ MtR X id (MRs (kwX X) (mthW m)) := by
  unfold mfnT at h
  split at h <;> first | (cases h; done) | skip
  · cases h; exact ⟨PySem.F.plainAttrs_list, PySem.F.slot_list_append, PySem.F.type_list_append, mt_appendS⟩
  · cases h; exact ⟨PySem.F.plainAttrs_list, PySem.F.slot_list_extend, PySem.F.type_list_extend, mt_extendS⟩
  · cases h; exact ⟨PySem.F.plainAttrs_list, PySem.F.slot_list_pop, PySem.F.type_list_pop, mt_popS⟩
  · cases h; exact ⟨PySem.F.plainAttrs_list, PySem.F.slot_list_pop, PySem.F.type_list_pop, mt_popAtS⟩
  · cases h; exact ⟨PySem.F.plainAttrs_list, PySem.F.slot_list_index, PySem.F.type_list_index, mt_indexS hu⟩
  · cases h; exact ⟨PySem.F.plainAttrs_str, PySem.F.slot_str_split, PySem.F.type_str_split, mt_splitS⟩
  · cases h; exact ⟨PySem.F.plainAttrs_dict, PySem.F.slot_dict_pop, PySem.F.type_dict_pop, mt_pop2S hu⟩
def notSup : Expr → Bool
  | .Call (.Name id _) [] [] _ => id != "super"
  | _ => true
theorem base_of {o : Expr} {n : Str} {env : Env} (h : notSup o = true) : attributeBase o n env (eval o env) = eval o env := by
  unfold attributeBase
  split
  · rename_i id p pos
    have h2 : (id != "super") = true := h
    simp [h2]
  · rfl
theorem se_mth {m : Mfn} {T : String} {n : Str} {id : String} {o : Expr} {es : List Expr} {f : WE} {g : WL} {apos pos : Pos} (hu : X.A.units + 66 < cLine) (hm : mfnT m = some (T, n, id)) (hs : es.all (fun e => !isStar e) = true) (hl : es.length < 10) (hline : (apos.endLine == pos.line) = true) (hb : notSup o = true)
    (h1 : SE1 X f o) (h2 : SA X g es) (hg0 : es = [] → g = fun _ M Q => Q [] M) : SE1 X (fun σ M Q => f σ M fun x M1 => rcvW m x M1 ∧ g σ M1 fun xs M2 => mthW m x xs M2 Q) (.Call (.Attribute o n apos) es [] pos) := by
  obtain ⟨t1, p1, q1⟩ := h1
  obtain ⟨t2, p2, q2⟩ := h2
  obtain ⟨pa, sl, ty, mt⟩ := mt_S (X := X) hu m hm
  cases es with
  | nil =>
    rw [hg0 rfl]
    refine ⟨_, pe_bm0 pa sl ty mt p1 (base_of hb) hline, fun σ H σu M Qu Q rs S hf c => ?_⟩
    refine q1 σ H σu M _ _ rs S hf fun v H1 u M1 st S1 r hq => ?_
    exact ⟨rcv_ty S1 r hm hq.1, u, [], M1, Qu, S1, r, .nil, hq.2, c.tr S st⟩
  | cons e es =>
    have hs2 : isStar e = false ∧ es.all (fun e => !isStar e) = true := by
      rw [List.all_cons, Bool.and_eq_true] at hs
      exact ⟨by simpa using hs.1, hs.2⟩
    refine ⟨_, pe_bm pa sl ty mt p1 p2 (base_of hb) (few_args hs hl) hline (star_cons hs2.1) (star_plain hs2.2), fun σ H σu M Qu Q rs S hf c => ?_⟩
    refine q1 σ H σu M _ _ rs S hf fun v H1 u M1 st S1 r hq => ?_
    refine ⟨rcv_ty S1 r hm hq.1, ?_⟩
    refine q2 σ H1 σu M1 _ _ (rs.stp S st) S1 hq.2 fun vs H2 us M2 st2 S2 rl hq2 => ?_
    exact ⟨u, us, M2, Qu, S2, r.stp S1 st2, rl, hq2, c.tr S (st.trans S st2)⟩
theorem se_dget {o e d : Expr} {f g h : WE} {apos pos : Pos} (hu : X.A.units + 66 < cLine) (hs : isStar e = false) (hs2 : isStar d = false) (hline : (apos.endLine == pos.line) = true) (hb : notSup o = true) (h1 : SE1 X f o) (h2 : SE1 X g e) (h3 : SE1 X h d) :
    SE1 X (fun σ M Q => f σ M fun x M1 => isDW x M1 ∧ g σ M1 fun y M2 => h σ M2 fun v M3 => dgetW x y v M3 Q) (.Call (.Attribute o "get" apos) [e, d] [] pos) := by
  obtain ⟨t1, p1, q1⟩ := h1
  obtain ⟨t2, p2, q2⟩ := h2
  obtain ⟨t3, p3, q3⟩ := h3
  have hall : [e, d].all (fun e => !isStar e) = true := by simp [hs, hs2]
  refine ⟨_, pe_dget2 (by omega) p1 p2 p3 ⟨base_of hb, few_args hall (by simp), hline, by rw [star_cons hs, star_cons hs2]; rfl⟩, fun σ H σu M Qu Q rs S hf c => ?_⟩
  refine q1 σ H σu M _ _ rs S hf fun v H1 u M1 st S1 r hq => ?_
  obtain ⟨⟨p, z, t, ks, rfl, hm⟩, hq⟩ := hq
  cases r
  have hd : IsD H1 p := by
    have q := S1 p _ hm
    cases t with
    | false => obtain ⟨kvs, e, _⟩ := q; exact .inl ⟨kvs, fz_rd e⟩
    | true => obtain ⟨kvs, e, _⟩ := q; exact .inr ⟨kvs, fz_rd e⟩
  refine ⟨p, rfl, hd, ?_⟩
  refine q2 σ H1 σu M1 _ _ (rs.stp S st) S1 hq fun y H2 uy M2 st2 S2 ry hq2 => ?_
  refine q3 σ H2 σu M2 _ _ (rs.stp S (st.trans S st2)) S2 hq2 fun w H3 uw M3 st3 S3 rw' hq3 => ?_
  obtain ⟨p', z', t', ks', e, hm3, hk, hq3⟩ := hq3
  cases e
  obtain ⟨o', hg, ho⟩ := dget_of S3 hm3 hk (ry.stp S2 st3)
  have cc := c.tr S ((st.trans S st2).trans S st3)
  refine ⟨o', hg, ?_⟩
  rcases ho with ⟨rfl, hn⟩ | ⟨v', u', rfl, hs', rv⟩
  · rw [hn] at hq3
    exact cc.at_ S3 rw' hq3
  · rw [hs'] at hq3
    exact cc.at_ S3 rv hq3
theorem se_dget1 {o e : Expr} {f g : WE} {apos pos : Pos} (hu : X.A.units + 66 < cLine) (hs : isStar e = false) (hline : (apos.endLine == pos.line) = true) (hb : notSup o = true) (h1 : SE1 X f o) (h2 : SE1 X g e) :
    SE1 X (fun σ M Q => f σ M fun x M1 => isDW x M1 ∧ g σ M1 fun y M2 => dgetW x y .non M2 Q) (.Call (.Attribute o "get" apos) [e] [] pos) := by
  obtain ⟨t1, p1, q1⟩ := h1
  obtain ⟨t2, p2, q2⟩ := h2
  have hall : [e].all (fun e => !isStar e) = true := by simp [hs]
  refine ⟨_, pe_dget1 (by omega) p1 p2 ⟨base_of hb, few_args hall (by simp), hline, by rw [star_cons hs]; rfl⟩, fun σ H σu M Qu Q rs S hf c => ?_⟩
  refine q1 σ H σu M _ _ rs S hf fun v H1 u M1 st S1 r hq => ?_
  obtain ⟨⟨p, z, t, ks, rfl, hm⟩, hq⟩ := hq
  cases r
  have hd : IsD H1 p := by
    have q := S1 p _ hm
    cases t with
    | false => obtain ⟨kvs, e, _⟩ := q; exact .inl ⟨kvs, fz_rd e⟩
    | true => obtain ⟨kvs, e, _⟩ := q; exact .inr ⟨kvs, fz_rd e⟩
  refine ⟨p, rfl, hd, ?_⟩
  refine q2 σ H1 σu M1 _ _ (rs.stp S st) S1 hq fun y H2 uy M2 st2 S2 ry hq2 => ?_
  obtain ⟨p', z', t', ks', e, hm3, hk, hq3⟩ := hq2
  cases e
  obtain ⟨o', hg, ho⟩ := dget_of S2 hm3 hk ry
  have cc := c.tr S (st.trans S st2)
  refine ⟨o', hg, ?_⟩
  rcases ho with ⟨rfl, hn⟩ | ⟨v', u', rfl, hs', rv⟩
  · rw [hn] at hq3
    exact cc.at_ S2 .non hq3
  · rw [hs'] at hq3
    exact cc.at_ S2 rv hq3
theorem se_isinst {t : String} {x z : Str} {a : Expr} {f : WE} {p p2 pos : Pos} (ht : tyOk t = true) (hx : x = "isinstance") (hz : z = Str.ofString t) (hg : Gl X x) (hm : X.mg x = none) (hg2 : Gl X z) (hm2 : X.mg z = none) (hs : isStar a = false) (h1 : SE1 X f a) :
    SE X (.ofE fun σ M Q => f σ M fun x M1 => isTyW x t M1 fun b M2 => Q (.bl b) M2) (.Call (.Name x p) [a, .Name z p2] [] pos) := by
  obtain ⟨t1, p1, q1⟩ := h1
  subst hx hz
  have bz : bootBuiltins (Str.ofString t) = some (.type t) := by
    have ht2 : t = "tuple" ∨ t = "str" ∨ t = "int" ∨ t = "bool" ∨ t = "list" := by
      unfold tyOk at ht
      simp only [Bool.or_eq_true, beq_iff_eq] at ht
      rcases ht with (((h | h) | h) | h) | h
      · exact .inl h
      · exact .inr (.inl h)
      · exact .inr (.inr (.inl h))
      · exact .inr (.inr (.inr (.inl h)))
      · exact .inr (.inr (.inr (.inr h)))
    rcases ht2 with rfl | rfl | rfl | rfl | rfl <;> decide +kernel
  have nz : Str.ofString t ≠ "__name__" ∧ (Str.ofString t == ("__debug__" : Str)) = false := by
    have ht2 : t = "tuple" ∨ t = "str" ∨ t = "int" ∨ t = "bool" ∨ t = "list" := by
      unfold tyOk at ht
      simp only [Bool.or_eq_true, beq_iff_eq] at ht
      rcases ht with (((h | h) | h) | h) | h
      · exact .inl h
      · exact .inr (.inl h)
      · exact .inr (.inr (.inl h))
      · exact .inr (.inr (.inr (.inl h)))
      · exact .inr (.inr (.inr (.inr h)))
    rcases ht2 with rfl | rfl | rfl | rfl | rfl <;> decide +kernel
  have pz : PE X (.Name (Str.ofString t) p2) (tC (.ty t)) := pe_bltn hg2 hm2 bz rfl nz.1 nz.2
  have pall : PA X [a, .Name (Str.ofString t) p2] (tCons t1 (tCons (tC (.ty t)) tNil)) := pa_cons p1 (pa_cons pz pa_nil) (star_cons hs)
  refine SE.ofE rfl ⟨_, pe_callB call_isi hg hm (by decide +kernel) pall (by decide +kernel) (by decide +kernel) (star_cons hs) rfl, fun σ H σu M Qu Q rs S hf c => ?_⟩
  refine q1 σ H σu M _ _ rs S hf fun v H1 u M1 st S1 r hq => ?_
  obtain ⟨ty, b, h1, h2, h3⟩ := isTy_of (Q := fun b H => Q (.bl b) H) ht ⟨u, M1, fun b M2 => Qu (.bl b) M2, S1, r, hq, fun b H' M' st' S' q' => c _ _ _ _ (st.trans S st') S' (.bl b) q'⟩
  exact ⟨v, .ty t, ty, .type t, b, rfl, .ty t, h1, h2, h3⟩

/-! ### what is walked -/
def ItOk (K : Kw) (H0 : Hp) (M0 : Hm) (J : It) (items : List U) (g : Hm → Prop) : Prop := ∀ (i : Nat) (H : Hp) (M : Hm), Stp H0 M0 H M → Sim K H M → g M →
  (∀ u, items[i]? = some u → J.go i H ∧ ∀ x H', J.yld i H x H' → Stp H M H' M ∧ Sim K H' M ∧ Rel K H' x u) ∧ (items.length = i → J.stop i H)
abbrev QI := List U → (Hm → Prop) → ((Hm → Prop) → Hm → Prop) → Hm → Prop
def EvI (K : Kw) (t : TI) (f : WI) : Prop := ∀ (σ : L2.St) (H : Hp) (σu : SU) (M : Hm) (Qu : QI) (R : It → Hp → Prop), RelS K H σ σu → Sim K H M → f σu M Qu →
  (∀ J H' items g ex M', Stp H M H' M' → Sim K H' M' → ItOk K H' M' J items g → g M' → ex = (fun P => P) → Qu items g ex M' → R J H') → t σ H R
def SI (X : Cx) (tg iter : Expr) (f : WI) : Prop := ∃ t, PI X tg iter t ∧ EvI (kwX X) t f
theorem it_list {K : Kw} {H0 : Hp} {M0 : Hm} {p : Addr} {us : List U} : ItOk K H0 M0 (Itl K p) us (fun M => M p = some (.lst us)) := fun i H M st S hm => by
  obtain ⟨vs, e, r⟩ := S p _ hm
  refine ⟨fun u hu => ?_, fun hl => ⟨vs, .inl (.inl e), by rw [r.length]; exact Nat.le_of_eq hl⟩⟩
  obtain ⟨v, ev, rv⟩ := r.get hu
  refine ⟨⟨vs, v, .inl (.inl e), ev⟩, fun x H' ⟨eH, hx⟩ => ?_⟩
  subst eH
  have e2 := hx vs (.inl (.inl e))
  rw [ev] at e2
  cases e2
  exact ⟨Stp.refl _ M, S, rv⟩
theorem it_rol {K : Kw} {H0 : Hp} {M0 : Hm} {p : Addr} {vs : List V} {us : List U} (S0 : Sim K H0 M0) (t : Rl K H0 p vs) (r0 : RelL K H0 vs us) : ItOk K H0 M0 (Itl K p) us (fun _ => True) := fun i H M st S _ => by
  have t1 := t.stp S0 st
  have r := r0.stp S0 st
  refine ⟨fun u hu => ?_, fun hl => ⟨vs, t1.sq, by rw [r.length]; exact Nat.le_of_eq hl⟩⟩
  obtain ⟨v, ev, rv⟩ := r.get hu
  refine ⟨⟨vs, v, t1.sq, ev⟩, fun x H' ⟨eH, hx⟩ => ?_⟩
  subst eH
  have e2 := hx vs t1.sq
  rw [ev] at e2
  cases e2
  exact ⟨Stp.refl _ M, S, rv⟩
theorem it_tup {K : Kw} {H0 : Hp} {M0 : Hm} {p : Addr} {vs : List V} {us : List U} (S0 : Sim K H0 M0) (t : Tp K H0 p vs) (r0 : RelL K H0 vs us) : ItOk K H0 M0 (Itt K p) us (fun _ => True) := fun i H M st S _ => by
  have t1 := t.stp S0 st
  have r := r0.stp S0 st
  refine ⟨fun u hu => ?_, fun hl => ⟨vs, t1.sq, by rw [r.length]; exact Nat.le_of_eq hl⟩⟩
  obtain ⟨v, ev, rv⟩ := r.get hu
  refine ⟨⟨vs, v, t1.sq, ev⟩, fun x H' ⟨eH, hx⟩ => ?_⟩
  subst eH
  have e2 := hx vs t1.sq
  rw [ev] at e2
  cases e2
  exact ⟨Stp.refl _ M, S, rv⟩
theorem it_tupD {K : Kw} {H0 : Hp} {M0 : Hm} {p : Addr} {vs : List V} {us : List U} (S0 : Sim K H0 M0) (t : Td K H0 p vs) (r0 : RelL K H0 vs us) : ItOk K H0 M0 (Itt K p) us (fun _ => True) := fun i H M st S _ => by
  have t1 := t.stp S0 st
  have r := r0.stp S0 st
  refine ⟨fun u hu => ?_, fun hl => ⟨vs, t1.sq, by rw [r.length]; exact Nat.le_of_eq hl⟩⟩
  obtain ⟨v, ev, rv⟩ := r.get hu
  refine ⟨⟨vs, v, t1.sq, ev⟩, fun x H' ⟨eH, hx⟩ => ?_⟩
  subst eH
  have e2 := hx vs t1.sq
  rw [ev] at e2
  cases e2
  exact ⟨Stp.refl _ M, S, rv⟩
theorem it_rng {K : Kw} {H0 : Hp} {M0 : Hm} {a : Int} {n : Nat} : ItOk K H0 M0 (Itr a n) ((List.range n).map fun i => U.int (a + (i : Nat))) (fun _ => True) := fun i H M st S _ => by
  refine ⟨fun u hu => ?_, fun hl => ?_⟩
  rotate_left
  · have hl2 : n = i := by simpa using hl
    exact Nat.le_of_eq hl2
  obtain ⟨h1, h2⟩ := List.getElem?_eq_some_iff.mp hu
  have h3 : i < n := by simpa using h1
  refine ⟨h3, fun x H' ⟨eH, hx⟩ => ?_⟩
  subst eH hx
  rw [← h2]
  refine ⟨Stp.refl _ M, S, ?_⟩
  simp only [List.getElem_map, List.getElem_range]
  exact .int _
theorem enumU_get {l : List U} {i : Nat} {u : U} (h : (enumU l)[i]? = some u) : ∃ w, l[i]? = some w ∧ u = .tup [.int (i : Nat), w] := by
  unfold enumU at h
  rw [List.getElem?_map, List.getElem?_zipIdx] at h
  cases q : l[i]? with
  | none => rw [q] at h; cases h
  | some w =>
    rw [q] at h
    simp only [Option.map_some, Option.some.injEq, Nat.zero_add] at h
    exact ⟨w, rfl, h.symm⟩
theorem enumU_len (l : List U) : (enumU l).length = l.length := by unfold enumU; rw [List.length_map, List.length_zipIdx]
theorem it_enL {K : Kw} {H0 : Hp} {M0 : Hm} {p : Addr} {us : List U} : ItOk K H0 M0 (Ite K p) (enumU us) (fun M => M p = some (.lst us)) := fun i H M st S hm => by
  obtain ⟨vs, e, r⟩ := S p _ hm
  refine ⟨fun u hu => ?_, fun hl => ⟨vs, .inl (.inl e), by rw [r.length]; rw [enumU_len] at hl; exact Nat.le_of_eq hl⟩⟩
  obtain ⟨w, hw, rfl⟩ := enumU_get hu
  obtain ⟨v, ev, rv⟩ := r.get hw
  refine ⟨⟨vs, v, .inl (.inl e), ev⟩, fun x H' ⟨T, y, ex, hT, eH, hy⟩ => ?_⟩
  subst ex eH
  have e2 := hy vs (.inl (.inl e))
  rw [ev] at e2
  cases e2
  exact ⟨Stp.newT S hT, S.newT hT, .tup (.inl upd_same) (.cons (.int _) (.cons (rv.stp S (Stp.newT S hT)) .nil))⟩
theorem it_enR {K : Kw} {H0 : Hp} {M0 : Hm} {p : Addr} {vs : List V} {us : List U} (S0 : Sim K H0 M0) (t : Rl K H0 p vs) (r0 : RelL K H0 vs us) : ItOk K H0 M0 (Ite K p) (enumU us) (fun _ => True) := fun i H M st S _ => by
  have t1 := t.stp S0 st
  have r := r0.stp S0 st
  refine ⟨fun u hu => ?_, fun hl => ⟨vs, t1.sq, by rw [r.length]; rw [enumU_len] at hl; exact Nat.le_of_eq hl⟩⟩
  obtain ⟨w, hw, rfl⟩ := enumU_get hu
  obtain ⟨v, ev, rv⟩ := r.get hw
  refine ⟨⟨vs, v, t1.sq, ev⟩, fun x H' ⟨T, y, ex, hT, eH, hy⟩ => ?_⟩
  subst ex eH
  have e2 := hy vs t1.sq
  rw [ev] at e2
  cases e2
  exact ⟨Stp.newT S hT, S.newT hT, .tup (.inl upd_same) (.cons (.int _) (.cons (rv.stp S (Stp.newT S hT)) .nil))⟩
theorem it_enT {K : Kw} {H0 : Hp} {M0 : Hm} {p : Addr} {vs : List V} {us : List U} (S0 : Sim K H0 M0) (t : Tp K H0 p vs) (r0 : RelL K H0 vs us) : ItOk K H0 M0 (IteT K p) (enumU us) (fun _ => True) := fun i H M st S _ => by
  have t1 := t.stp S0 st
  have r := r0.stp S0 st
  refine ⟨fun u hu => ?_, fun hl => ⟨vs, t1.sq, by rw [r.length]; rw [enumU_len] at hl; exact hl⟩⟩
  obtain ⟨w, hw, rfl⟩ := enumU_get hu
  obtain ⟨v, ev, rv⟩ := r.get hw
  refine ⟨⟨vs, v, t1.sq, ev⟩, fun x H' ⟨T, y, ex, hT, eH, hy⟩ => ?_⟩
  subst ex eH
  have e2 := hy vs t1.sq
  rw [ev] at e2
  cases e2
  exact ⟨Stp.newT S hT, S.newT hT, .tup (.inl upd_same) (.cons (.int _) (.cons (rv.stp S (Stp.newT S hT)) .nil))⟩
theorem it_enTD {K : Kw} {H0 : Hp} {M0 : Hm} {p : Addr} {vs : List V} {us : List U} (S0 : Sim K H0 M0) (t : Td K H0 p vs) (r0 : RelL K H0 vs us) : ItOk K H0 M0 (IteT K p) (enumU us) (fun _ => True) := fun i H M st S _ => by
  have t1 := t.stp S0 st
  have r := r0.stp S0 st
  refine ⟨fun u hu => ?_, fun hl => ⟨vs, t1.sq, by rw [r.length]; rw [enumU_len] at hl; exact hl⟩⟩
  obtain ⟨w, hw, rfl⟩ := enumU_get hu
  obtain ⟨v, ev, rv⟩ := r.get hw
  refine ⟨⟨vs, v, t1.sq, ev⟩, fun x H' ⟨T, y, ex, hT, eH, hy⟩ => ?_⟩
  subst ex eH
  have e2 := hy vs t1.sq
  rw [ev] at e2
  cases e2
  exact ⟨Stp.newT S hT, S.newT hT, .tup (.inl upd_same) (.cons (.int _) (.cons (rv.stp S (Stp.newT S hT)) .nil))⟩
theorem si_enum {x : Str} {p pos tpos : Pos} {elts : List Expr} {kk : Nat} {a : Expr} {f : WE} (hx : x = "enumerate") (hg : Gl X x) (hm : X.mg x = none) (hs : isStar a = false) (h : SE1 X f a) :
    SI X (.Tuple elts kk tpos) (.Call (.Name x p) [a] [] pos) (fun σ M Q => f σ M fun x M1 => seqI x M1 fun us g ex M2 => Q (enumU us) g ex M2) := by
  subst hx
  obtain ⟨t, pt, q⟩ := h
  refine ⟨_, pi_en hg hm (pa_cons pt pa_nil (star_cons hs)) (star_cons hs), fun σ H σu M Qu R rs S hf c => ?_⟩
  refine q σ H σu M _ _ rs S hf fun v H1 u M1 st S1 r hq => ?_
  unfold seqI at hq
  split at hq
  · cases r with
    | tup t rl => exact ⟨_, rfl, .inr ⟨⟨_, t.sq⟩, c _ _ _ _ _ _ st S1 (it_enT S1 t rl) trivial rfl hq⟩⟩
  · cases r with
    | rol t rl => exact ⟨_, rfl, .inl ⟨⟨_, t.sq⟩, c _ _ _ _ _ _ st S1 (it_enR S1 t rl) trivial rfl hq⟩⟩
  · cases r with
    | dtp t rl => exact ⟨_, rfl, .inr ⟨⟨_, t.sq⟩, c _ _ _ _ _ _ st S1 (it_enTD S1 t rl) trivial rfl hq⟩⟩
  · cases r
    obtain ⟨us, hm1, hq⟩ := hq
    obtain ⟨vs, e, rl⟩ := S1 _ _ hm1
    exact ⟨_, rfl, .inl ⟨⟨vs, .inl (.inl e)⟩, c _ _ _ _ _ _ st S1 it_enL hm1 rfl hq⟩⟩
  · exact hq.elim
theorem zipU_get {l r : List U} {i : Nat} {u : U} (h : (zipU l r)[i]? = some u) : ∃ a b, l[i]? = some a ∧ r[i]? = some b ∧ u = .tup [a, b] := by
  unfold zipU at h
  rw [List.getElem?_map] at h
  cases q : (l.zip r)[i]? with
  | none => rw [q] at h; cases h
  | some w =>
    rw [q] at h
    cases h
    obtain ⟨h1, h2⟩ := List.getElem?_zip_eq_some.mp q
    exact ⟨w.1, w.2, h1, h2, rfl⟩
theorem zipU_len {l r : List U} {i : Nat} (h : (zipU l r).length = i) : l.length ≤ i ∨ r.length ≤ i := by
  unfold zipU at h
  rw [List.length_map, List.length_zip] at h
  omega
/-- what is a tuple, by its items -/
theorem tup_of {K : Kw} {H : Hp} {v : V} {u : U} {l : List U} (r : Rel K H v u) (h : tupOf u = some l) : ∃ p vs, v = .ref p ∧ (∀ M H' M', Sim K H M → Stp H M H' M' → SqT K H' p vs) ∧ RelL K H vs l := by
  cases r <;> first | (cases h; done) | skip
  · rename_i t rl
    cases h
    exact ⟨_, _, rfl, fun M H' M' S st => (t.stp S st).sq, rl⟩
  · rename_i t rl
    cases h
    exact ⟨_, _, rfl, fun M H' M' S st => (t.stp S st).sq, rl⟩
theorem it_zipT {K : Kw} {H0 : Hp} {M0 : Hm} {p q : Addr} {xs ys : List V} {us ws : List U} (S0 : Sim K H0 M0) (t1 : ∀ M H' M', Sim K H0 M → Stp H0 M H' M' → SqT K H' p xs) (t2 : ∀ M H' M', Sim K H0 M → Stp H0 M H' M' → SqT K H' q ys) (r1 : RelL K H0 xs us) (r2 : RelL K H0 ys ws) :
    ItOk K H0 M0 (RZ.ItzT K p q) (zipU us ws) (fun _ => True) := fun i H M st S _ => by
  have a1 := t1 _ _ _ S0 st
  have a2 := t2 _ _ _ S0 st
  have b1 := r1.stp S0 st
  have b2 := r2.stp S0 st
  refine ⟨fun u hu => ?_, fun hl => ⟨xs, ys, a1, a2, by rw [b1.length, b2.length]; exact zipU_len hl⟩⟩
  obtain ⟨a, b, ha, hb, rfl⟩ := zipU_get hu
  obtain ⟨v, ev, rv⟩ := b1.get ha
  obtain ⟨y, ey, ry⟩ := b2.get hb
  refine ⟨⟨xs, ys, v, y, a1, a2, ev, ey⟩, fun x H' ⟨T, x1, y1, ex, hT, eH, h1, h2⟩ => ?_⟩
  subst ex eH
  have e1 := h1 xs a1
  have e2 := h2 ys a2
  rw [ev] at e1
  rw [ey] at e2
  cases e1
  cases e2
  exact ⟨Stp.newT S hT, S.newT hT, .tup (.inl upd_same) (.cons (rv.stp S (Stp.newT S hT)) (.cons (ry.stp S (Stp.newT S hT)) .nil))⟩
theorem it_zipL {K : Kw} {H0 : Hp} {M0 : Hm} {p q : Addr} {us ws : List U} : ItOk K H0 M0 (Itz K p q) (zipU us ws) (fun M => M p = some (.lst us) ∧ M q = some (.lst ws)) := fun i H M st S hm => by
  obtain ⟨xs, e1, b1⟩ := S p _ hm.1
  obtain ⟨ys, e2, b2⟩ := S q _ hm.2
  have a1 : SqL K H p xs := .inl (.inl e1)
  have a2 : SqL K H q ys := .inl (.inl e2)
  refine ⟨fun u hu => ?_, fun hl => ⟨xs, ys, a1, a2, by rw [b1.length, b2.length]; exact zipU_len hl⟩⟩
  obtain ⟨a, b, ha, hb, rfl⟩ := zipU_get hu
  obtain ⟨v, ev, rv⟩ := b1.get ha
  obtain ⟨y, ey, ry⟩ := b2.get hb
  refine ⟨⟨xs, ys, v, y, a1, a2, ev, ey⟩, fun x H' ⟨T, x1, y1, ex, hT, eH, h1, h2⟩ => ?_⟩
  subst ex eH
  have e3 := h1 xs a1
  have e4 := h2 ys a2
  rw [ev] at e3
  rw [ey] at e4
  cases e3
  cases e4
  exact ⟨Stp.newT S hT, S.newT hT, .tup (.inl upd_same) (.cons (rv.stp S (Stp.newT S hT)) (.cons (ry.stp S (Stp.newT S hT)) .nil))⟩
theorem si_zip {x : Str} {p pos tpos : Pos} {elts : List Expr} {kk : Nat} {a b : Expr} {f g : WE} (hx : x = "zip") (hg : Gl X x) (hm : X.mg x = none) (hs : isStar a = false) (hs2 : isStar b = false) (h : SE1 X f a) (h2 : SE1 X g b) :
    SI X (.Tuple elts kk tpos) (.Call (.Name x p) [a, b] [] pos) (fun σ M Q => f σ M fun x M1 => g σ M1 fun y M2 => zipI x y M2 Q) := by
  subst hx
  obtain ⟨t, pt, q⟩ := h
  obtain ⟨t2, pt2, q2⟩ := h2
  refine ⟨_, RZ.pi_zipA hg hm (pa_cons pt (pa_cons pt2 pa_nil (star_cons hs2)) (star_cons hs)) (star_cons hs) (by rw [star_cons hs2]; rfl), fun σ H σu M Qu R rs S hf c => ?_⟩
  refine q σ H σu M _ _ rs S hf fun v H1 u M1 st S1 r hq => ?_
  refine q2 σ H1 σu M1 _ _ (rs.stp S st) S1 hq fun v2 H2 u2 M2 st2 S2 r2 hq2 => ?_
  have r' := r.stp S1 st2
  have s12 := st.trans S st2
  rcases hq2 with ⟨l, l', e1, e2, hq2⟩ | ⟨p1, p2, us, ws, rfl, rfl, m1, m2, hq2⟩
  · obtain ⟨a1, xs, rfl, t1, rl1⟩ := tup_of r' e1
    obtain ⟨a2, ys, rfl, t2, rl2⟩ := tup_of r2 e2
    exact ⟨a1, a2, xs, ys, rfl, .inr ⟨t1 _ _ _ S2 (Stp.refl _ _), t2 _ _ _ S2 (Stp.refl _ _), c _ _ _ _ _ _ s12 S2 (it_zipT S2 t1 t2 rl1 rl2) trivial rfl hq2⟩⟩
  · cases r'
    cases r2
    obtain ⟨xs, e1, rl1⟩ := S2 _ _ m1
    obtain ⟨ys, e2, rl2⟩ := S2 _ _ m2
    exact ⟨_, _, xs, ys, rfl, .inl ⟨.inl (.inl e1), .inl (.inl e2), c _ _ _ _ _ _ s12 S2 it_zipL ⟨m1, m2⟩ rfl hq2⟩⟩
/-- a list or a tuple (either is found when it is walked) -/
def iSq (K : Kw) (tl : TE) : TI := fun σ H R => tl σ H fun x H1 => ∃ a, x = .ref a ∧ (((∃ xs, SqL K H1 a xs) ∧ R (Itl K a) H1) ∨ ((∃ xs, SqT K H1 a xs) ∧ R (Itt K a) H1))
theorem pi_sq {tg l : Expr} {tl : TE} (hl : PE X l tl) : PI X tg l (iSq (kwX X) tl) := by
  refine ⟨fun pins s σ H R I h => ?_⟩
  refine thn (hl.run pins s σ H _ I h) fun v s1 ⟨x, H1, I1, r, q⟩ => ?_
  obtain ⟨a, rfl, q⟩ := q
  obtain rfl : v = Value.ref a := r
  rcases q with ⟨⟨xs, hx⟩, q⟩ | ⟨⟨xs, hx⟩, q⟩
  · obtain ⟨its, rv, p, hz⟩ := I1.list hx
    exact PySem.wpAny_pyIter_list p.isList (pi_one I1 _ (turn_list a _) ⟨_, Heap.get?_push_size _ rfl, rfl, rfl⟩ q)
  · obtain ⟨its, rv, p, hz⟩ := I1.tuple hx
    exact PySem.wpAny_pyIter_tuple (show s1.heap.IsTuple a its.toArray from p) (pi_one I1 _ (turn_tuple a _) ⟨_, Heap.get?_push_size _ rfl, rfl, rfl⟩ q)
theorem si_seq {tg l : Expr} {f : WE} (h : SE1 X f l) : SI X tg l (fun σ M Q => f σ M fun x M1 => seqI x M1 Q) := by
  obtain ⟨t, p, q⟩ := h
  refine ⟨_, pi_sq p, fun σ H σu M Qu R rs S hf c => ?_⟩
  refine q σ H σu M _ _ rs S hf fun v H1 u M1 st S1 r hq => ?_
  unfold seqI at hq
  split at hq
  · cases r with
    | tup t rl => exact ⟨_, rfl, .inr ⟨⟨_, t.sq⟩, c _ _ _ _ _ _ st S1 (it_tup S1 t rl) trivial rfl hq⟩⟩
  · cases r with
    | rol t rl => exact ⟨_, rfl, .inl ⟨⟨_, t.sq⟩, c _ _ _ _ _ _ st S1 (it_rol S1 t rl) trivial rfl hq⟩⟩
  · cases r with
    | dtp t rl => exact ⟨_, rfl, .inr ⟨⟨_, t.sq⟩, c _ _ _ _ _ _ st S1 (it_tupD S1 t rl) trivial rfl hq⟩⟩
  · obtain ⟨us, e, hq⟩ := hq
    cases r
    obtain ⟨vs, e2, _⟩ := S1 _ _ e
    exact ⟨_, rfl, .inl ⟨⟨_, .inl (.inl e2)⟩, c _ _ _ _ _ _ st S1 it_list e rfl hq⟩⟩
  · exact hq.elim
theorem it_rev {K : Kw} {H0 : Hp} {M0 : Hm} {p : Addr} {us : List U} : ItOk K H0 M0 (Itv K p us.length) us.reverse (fun M => M p = some (.lst us)) := fun i H M st S hm => by
  obtain ⟨vs, e, r⟩ := S p _ hm
  refine ⟨fun u hu => ?_, fun hl => by
    rw [List.length_reverse] at hl
    exact Nat.le_of_eq hl⟩
  obtain ⟨h1, h2⟩ := List.getElem?_eq_some_iff.mp hu
  rw [List.length_reverse] at h1
  have hu' : us[us.length - 1 - i]? = some u := by rw [← List.getElem?_reverse h1]; exact hu
  obtain ⟨v, ev, rv⟩ := r.get hu'
  refine ⟨⟨h1, vs, v, .inl (.inl e), ev⟩, fun x H' ⟨eH, hx⟩ => ?_⟩
  subst eH
  have e2 := hx vs (.inl (.inl e))
  rw [ev] at e2
  cases e2
  exact ⟨Stp.refl _ M, S, rv⟩
theorem it_revT {K : Kw} {H0 : Hp} {M0 : Hm} {p : Addr} {vs : List V} {us : List U} (S0 : Sim K H0 M0) (t : Tp K H0 p vs) (r0 : RelL K H0 vs us) : ItOk K H0 M0 (RT.ItvT K p us.length) us.reverse (fun _ => True) := fun i H M st S _ => by
  have t1 := t.stp S0 st
  have r := r0.stp S0 st
  refine ⟨fun u hu => ?_, fun hl => by
    rw [List.length_reverse] at hl
    exact Nat.le_of_eq hl⟩
  obtain ⟨h1, h2⟩ := List.getElem?_eq_some_iff.mp hu
  rw [List.length_reverse] at h1
  have hu' : us[us.length - 1 - i]? = some u := by rw [← List.getElem?_reverse h1]; exact hu
  obtain ⟨v, ev, rv⟩ := r.get hu'
  refine ⟨⟨h1, vs, v, t1.sq, ev⟩, fun x H' ⟨eH, hx⟩ => ?_⟩
  subst eH
  have e2 := hx vs t1.sq
  rw [ev] at e2
  cases e2
  exact ⟨Stp.refl _ M, S, rv⟩
theorem it_revD {K : Kw} {H0 : Hp} {M0 : Hm} {p : Addr} {vs : List V} {us : List U} (S0 : Sim K H0 M0) (t : Td K H0 p vs) (r0 : RelL K H0 vs us) : ItOk K H0 M0 (RT.ItvT K p us.length) us.reverse (fun _ => True) := fun i H M st S _ => by
  have t1 := t.stp S0 st
  have r := r0.stp S0 st
  refine ⟨fun u hu => ?_, fun hl => by
    rw [List.length_reverse] at hl
    exact Nat.le_of_eq hl⟩
  obtain ⟨h1, h2⟩ := List.getElem?_eq_some_iff.mp hu
  rw [List.length_reverse] at h1
  have hu' : us[us.length - 1 - i]? = some u := by rw [← List.getElem?_reverse h1]; exact hu
  obtain ⟨v, ev, rv⟩ := r.get hu'
  refine ⟨⟨h1, vs, v, t1.sq, ev⟩, fun x H' ⟨eH, hx⟩ => ?_⟩
  subst eH
  have e2 := hx vs t1.sq
  rw [ev] at e2
  cases e2
  exact ⟨Stp.refl _ M, S, rv⟩
theorem si_rev {tg a : Expr} {f : WE} {x : Str} {p pos : Pos} (hx : x = "reversed") (hg : Gl X x) (hm : X.mg x = none) (hs : isStar a = false) (h : SE1 X f a) :
    SI X tg (.Call (.Name x p) [a] [] pos) (fun σ M Q => f σ M fun x M1 => revI x M1 Q) := by
  subst hx
  obtain ⟨t, pt, q⟩ := h
  refine ⟨_, RT.pi_revA hg hm pt (star_cons hs), fun σ H σu M Qu R rs S hf c => ?_⟩
  refine q σ H σu M _ _ rs S hf fun v H1 u M1 st S1 r hq => ?_
  unfold revI at hq
  split at hq
  · cases r with
    | tup t rl => exact ⟨_, _, rfl, .inr ⟨t.sq, by rw [rl.length]; exact c _ _ _ _ _ _ st S1 (it_revT S1 t rl) trivial rfl hq⟩⟩
  · cases r with
    | dtp t rl => exact ⟨_, _, rfl, .inr ⟨t.sq, by rw [rl.length]; exact c _ _ _ _ _ _ st S1 (it_revD S1 t rl) trivial rfl hq⟩⟩
  · obtain ⟨us, e, hq⟩ := hq
    cases r
    obtain ⟨vs, e2, rl⟩ := S1 _ _ e
    exact ⟨_, _, rfl, .inl ⟨.inl (.inl e2), by rw [rl.length]; exact c _ _ _ _ _ _ st S1 it_rev e rfl hq⟩⟩
  · exact hq.elim
theorem si_rng {tg a : Expr} {f : WE} {x : Str} {p pos : Pos} (hx : x = "range") (hg : Gl X x) (hm : X.mg x = none) (hs : isStar a = false) (h : SE1 X f a) :
    SI X tg (.Call (.Name x p) [a] [] pos) (fun σ M Q => f σ M fun x M1 => ∃ n, x = .int n ∧ n ≤ LIM ∧ -LIM ≤ n ∧ Q (rngU 0 n) (fun _ => True) (fun P => P) M1) := by
  subst hx
  obtain ⟨t, pt, q⟩ := h
  refine ⟨_, pi_range1 hg hm (pa_cons pt pa_nil (star_cons hs)) (star_cons hs), fun σ H σu M Qu R rs S hf c => ?_⟩
  refine q σ H σu M _ _ rs S hf fun v H1 u M1 st S1 r hq => ?_
  obtain ⟨n, rfl, h1, h2, hq⟩ := hq
  cases r
  have hl : LIM = 100000 := rfl
  refine ⟨n, rfl, by omega, by omega, ?_⟩
  have e : rngU 0 n = (List.range n.toNat).map fun i => U.int (0 + (i : Nat)) := by
    unfold rngU
    rw [Int.sub_zero]
  rw [e] at hq
  exact c _ _ _ _ _ _ st S1 it_rng trivial rfl hq
theorem si_rng2 {tg a b : Expr} {f g : WE} {x : Str} {p pos : Pos} (hx : x = "range") (hg : Gl X x) (hm : X.mg x = none) (hs : isStar a = false) (hs2 : isStar b = false) (h : SE1 X f a) (h2 : SE1 X g b) :
    SI X tg (.Call (.Name x p) [a, b] [] pos) (fun σ M Q => f σ M fun x M1 => g σ M1 fun y M2 => ∃ m n, x = .int m ∧ y = .int n ∧ -LIM ≤ m ∧ m ≤ LIM ∧ n ≤ LIM ∧ -LIM ≤ n ∧ Q (rngU m n) (fun _ => True) (fun P => P) M2) := by
  subst hx
  obtain ⟨t, pt, q⟩ := h
  obtain ⟨t2, pt2, q2⟩ := h2
  have st2 : ∀ env : Env, starEach [b] env = [(false, eval b env)] := fun env => star_cons hs2
  refine ⟨_, pi_range2 hg hm (pa_cons pt (pa_cons pt2 pa_nil (star_cons hs2)) (star_cons hs)) (by rw [star_cons hs, star_cons hs2] <;> rfl) (by rw [star_cons hs2] <;> rfl), fun σ H σu M Qu R rs S hf c => ?_⟩
  refine q σ H σu M _ _ rs S hf fun v H1 u M1 st S1 r hq => ?_
  refine q2 σ H1 σu M1 _ _ (rs.stp S st) S1 hq fun v2 H2 u2 M2 st2 S2 r2 hq2 => ?_
  obtain ⟨m, n, rfl, rfl, h1, h2, h3, h4, hq⟩ := hq2
  cases r
  cases r2
  have hl : LIM = 100000 := rfl
  refine ⟨m, n, rfl, by omega, ?_⟩
  exact c _ _ _ _ _ _ (st.trans S st2) S2 it_rng trivial rfl hq
end
end Pl

set_option maxHeartbeats 4000000
/-! instances: fields, methods, making; setdefault; list(range(..)); a module's constants -/
namespace Pl
open PySem L2
theorem RelF.get {K : Kw} {H : Hp} {f : Str} {u : U} : ∀ {vs : List (Str × V)} {fs : List (Str × U)}, RelF K H vs fs → fs.lookup f = some u → ∃ y, vs.lookup f = some y ∧ Rel K H y u ∧ (f, y) ∈ vs
  | _, _, .nil, e => by cases e
  | _, _, .cons (a := p) (b := q) (l₁ := r) (l₂ := rest) a b, e => by
    obtain ⟨g, v⟩ := p
    obtain ⟨g', u'⟩ := q
    obtain ⟨rfl, rv⟩ := (show g = g' ∧ Rel K H v u' from a)
    cases hb : (f == g) with
    | true =>
      have e1 : List.lookup f ((g, u') :: rest) = some u' := by simp only [List.lookup, hb]
      rw [e1] at e
      cases e
      have := beq_iff_eq.mp hb
      subst this
      exact ⟨v, by simp only [List.lookup, hb], rv, List.mem_cons_self⟩
    | false =>
      have e1 : List.lookup f ((g, u') :: rest) = List.lookup f rest := by simp only [List.lookup, hb]
      rw [e1] at e
      obtain ⟨y, h1, h2, h3⟩ := RelF.get b e
      exact ⟨y, by simp only [List.lookup, hb]; exact h1, h2, List.mem_cons_of_mem _ h3⟩
theorem RelF.no {K : Kw} {H : Hp} {f : Str} : ∀ {vs : List (Str × V)} {fs : List (Str × U)}, RelF K H vs fs → fs.lookup f = none → vs.lookup f = none
  | _, _, .nil, e => rfl
  | _, _, .cons (a := p) (b := q) (l₁ := r) (l₂ := rest) a b, e => by
    obtain ⟨g, v⟩ := p
    obtain ⟨g', u'⟩ := q
    obtain ⟨rfl, rv⟩ := (show g = g' ∧ Rel K H v u' from a)
    cases hb : (f == g) with
    | true =>
      have e1 : List.lookup f ((g, u') :: rest) = some u' := by simp only [List.lookup, hb]
      rw [e1] at e
      cases e
    | false =>
      have e1 : List.lookup f ((g, u') :: rest) = List.lookup f rest := by simp only [List.lookup, hb]
      rw [e1] at e
      simp only [List.lookup, hb]
      exact RelF.no b e
theorem RelF.put {K : Kw} {H : Hp} {f : Str} {v : V} {u : U} (r : Rel K H v u) : ∀ {vs : List (Str × V)} {fs : List (Str × U)}, RelF K H vs fs → RelF K H (putF f v vs) (fput f u fs)
  | _, _, .nil => .cons ⟨rfl, r⟩ .nil
  | _, _, .cons (a := p) (b := q) (l₁ := t) (l₂ := rest) a b => by
    obtain ⟨g, w⟩ := p
    obtain ⟨g', u'⟩ := q
    obtain ⟨rfl, rv⟩ := (show g = g' ∧ Rel K H w u' from a)
    unfold putF fput
    by_cases h : g = f
    · rw [if_pos h, if_pos h]
      exact .cons ⟨rfl, r⟩ b
    · rw [if_neg h, if_neg h]
      exact .cons ⟨rfl, rv⟩ (RelF.put r b)
theorem mem_putF {f : Str} {v : V} {P : Str → Prop} (hf : P f) : ∀ {vs : List (Str × V)}, (∀ x ∈ vs, P x.1) → ∀ x ∈ putF f v vs, P x.1
  | [], _, x, hx => by
    rw [show putF f v [] = [(f, v)] from rfl, List.mem_singleton] at hx
    rw [hx]
    exact hf
  | (g, y) :: r, h, x, hx => by
    unfold putF at hx
    by_cases e : g = f
    · rw [if_pos e] at hx
      rcases List.mem_cons.mp hx with rfl | hx
      · exact h (g, y) List.mem_cons_self
      · exact h x (List.mem_cons_of_mem _ hx)
    · rw [if_neg e] at hx
      rcases List.mem_cons.mp hx with rfl | hx
      · exact h (g, y) List.mem_cons_self
      · exact mem_putF hf (fun z hz => h z (List.mem_cons_of_mem _ hz)) x hx
theorem RelF.len {K : Kw} {H : Hp} {vs : List (Str × V)} {fs : List (Str × U)} (h : RelF K H vs fs) : vs.length = fs.length := Paired.length h
section
variable {X : Cx}
theorem se_fld {o : Expr} {f : Str} {g : WE} {pos : Pos} (hb : notSup o = true) (h1 : SE1 X g o) :
    SE1 X (fun σ M Q => g σ M fun x M1 => ∃ p c fs v, x = .ref p ∧ M1 p = some (.obj c fs) ∧ fs.lookup f = some v ∧ Q v M1) (.Attribute o f pos) := by
  obtain ⟨t1, p1, q1⟩ := h1
  refine ⟨_, pe_fld p1 (base_of hb), fun σ H σu M Qu Q rs S hf c => ?_⟩
  refine q1 σ H σu M _ _ rs S hf fun v H1 u M1 st S1 r hq => ?_
  obtain ⟨p, cn, fs, w, rfl, hm, hl, hq⟩ := hq
  obtain ⟨dx, vs, e, rf, cl, na⟩ := S1 _ _ hm
  cases r
  obtain ⟨y, hy, ry, mem⟩ := RelF.get rf hl
  exact ⟨p, cad (kwX X) cn, dx, vs, y, rfl, e, cl, na _ mem, hy, (c.tr S st).at_ S1 ry hq⟩
theorem eval_meth {env : Env} {o : Expr} {m : Str} {apos pos : Pos} {args : List Expr} (hb : notSup o = true) (hall : args.all (fun e => !isStar e) = true) (hl : args.length < 10) (hline : (apos.endLine == pos.line) = true) :
    eval (.Call (.Attribute o m apos) args [] pos) env = (do
      let ov ← eval o env
      standAt apos.atName
      let (f, first) ← holding [ov] (getMethod ov m (do return (← importBound o env).getD true))
      callWith pos f first (backTo pos (starEach args env)) (backToKw pos (keywordEach [] env))) := by
  rw [arm_eval_Call, base_of hb]
  have hform : methodCallForm (args.length + ([] : List Keyword).length) (backTo pos (starEach args env)) (backToKw pos (keywordEach [] env)) = true := few_args hall hl
  have hpos : methodCallPos true o env apos pos = pure pos := by unfold methodCallPos; simp [hline]
  unfold methodCall
  rw [hform, hpos]
  simp only [pure_bind]
  rfl
theorem se_meth {k : Nat} {f : Addr} {fd : FuncData} {ps : List Str} {m cn : Str} {o : Expr} {es : List Expr} {g : WE} {gl : WL} {c : List U → Hm → QU → Prop} {apos pos : Pos} (F : FnOk X.prog X.w (kwX X) X.mg X.base CX0 k f fd ps (spOf (kwX X) c)) (hr : Room k X.A) (cl : Cls (kwX X) (cad (kwX X) cn)) (hm : Meth (kwX X) (cad (kwX X) cn) m f)
    (hb : Binds (kwX X) fd ps []) (hs : es.all (fun e => !isStar e) = true) (hl : es.length < 10) (hline : (apos.endLine == pos.line) = true) (hn : notSup o = true) (h1 : SE1 X g o) (h : SA X gl es) (hg0 : es = [] → gl = fun _ M Q => Q [] M) :
    SE1 X (fun σ M Q => g σ M fun x M1 => (∃ p fs, x = .ref p ∧ M1 p = some (.obj cn fs) ∧ fs.lookup m = none) ∧ gl σ M1 fun xs M2 => c (x :: xs) M2 Q) (.Call (.Attribute o m apos) es [] pos) := by
  obtain ⟨t1, p1, q1⟩ := h1
  obtain ⟨t, pt, q⟩ := h
  cases es with
  | nil =>
    rw [hg0 rfl]
    refine ⟨_, pe_meth0 p1 cl hm F hr hb .nil pass0 (eval_meth hn hs hl hline), fun σ H σu M Qu Q rs S hf ct => ?_⟩
    refine q1 σ H σu M _ _ rs S hf fun v H1 u M1 st S1 r hq => ?_
    obtain ⟨⟨p, fs, rfl, e, lk⟩, hq⟩ := hq
    obtain ⟨dx, vs, e1, rf, _, _⟩ := S1 _ _ e
    cases r
    exact ⟨p, dx, vs, rfl, e1, rf.no lk, [.ref p], M1, Qu, S1, .cons (.ref p) .nil, hq, ct.tr S st⟩
  | cons e es =>
    have hs2 : isStar e = false ∧ es.all (fun e => !isStar e) = true := by
      rw [List.all_cons, Bool.and_eq_true] at hs
      exact ⟨by simpa using hs.1, hs.2⟩
    refine ⟨_, pe_meth p1 cl hm F hr hb .nil pass0 pt (star_cons hs2.1) (star_plain hs2.2) (eval_meth hn hs hl hline), fun σ H σu M Qu Q rs S hf ct => ?_⟩
    refine q1 σ H σu M _ _ rs S hf fun v H1 u M1 st S1 r hq => ?_
    obtain ⟨⟨p, fs, rfl, e, lk⟩, hq⟩ := hq
    obtain ⟨dx, vs, e1, rf, _, _⟩ := S1 _ _ e
    cases r
    refine ⟨p, dx, vs, rfl, e1, rf.no lk, ?_⟩
    refine q σ H1 σu M1 _ _ (rs.stp S st) S1 hq fun vs H2 us M2 st2 S2 rl hq2 => ?_
    rw [List.append_nil]
    exact ⟨.ref p :: us, M2, Qu, S2, .cons (.ref p) rl, hq2, ct.tr S (st.trans S st2)⟩
theorem new_obj {K : Kw} {H : Hp} {M : Hm} (S : Sim K H M) {cn : Str} (cl : Cls K (cad K cn)) {x dx : Addr} (hx : H x = none) (hd : H dx = none) (ne : dx ≠ x) :
    Stp H M (upd (upd H dx (.own x)) x (.ins (cad K cn) dx [])) (um M x (.obj cn [])) ∧ Sim K (upd (upd H dx (.own x)) x (.ins (cad K cn) dx [])) (um M x (.obj cn [])) := by
  have s1 : Stp H M (upd H dx (.own x)) M := Stp.newT S hd
  have S1 : Sim K (upd H dx (.own x)) M := S.to s1 fun a o e => .inl ⟨e, upd_ne fun z => by
    have q := S.fr hd
    rw [z, q] at e
    cases e⟩
  have h2 : upd H dx (.own x) x = none := by rw [upd_ne (Ne.symm ne)]; exact hx
  exact ⟨s1.trans S (Stp.new S1 h2), S1.new (m := .obj cn []) h2 ⟨dx, [], upd_same, .nil, cl, fun z hz => nomatch hz⟩⟩
theorem ev_make {k : List U → Hm → QU → Prop} {cn : Str} {g : WL} {t : TA} (cl : Cls (kwX X) (cad (kwX X) cn)) (q : EvL (kwX X) t g) :
    EvE (kwX X) (fun σ H Q => t σ H fun vs H1 => ∀ x dx, H1 x = none → H1 dx = none → dx ≠ x → CRs (kwX X) k (.ref x :: (vs ++ [])) (upd (upd H1 dx (.own x)) x (.ins (cad (kwX X) cn) dx [])) (fun v H2 => v = .non ∧ Q (.ref x) H2))
      (fun σ M Q => g σ M fun xs M1 => ∀ p, M1 p = none → k (.ref p :: xs) (um M1 p (.obj cn [])) fun u M2 => u = .non ∧ Q (.ref p) M2) := fun σ H σu M Qu Q rs S hf ct => by
  refine q σ H σu M _ _ rs S hf fun vs H1 us M1 st S1 r1 hq x dx hx hd ne => ?_
  obtain ⟨s2, S2⟩ := new_obj S1 cl hx hd ne
  rw [List.append_nil]
  refine ⟨.ref x :: us, um M1 x (.obj cn []), _, S2, .cons (.ref x) (r1.stp S1 s2), hq x (S1.fr hx), fun v H3 u M3 s3 S3 rv hq3 => ?_⟩
  obtain ⟨rfl, hq3⟩ := hq3
  cases rv
  exact ⟨rfl, ct _ _ (.ref x) M3 ((st.trans S s2).trans S s3) S3 (.ref x) hq3⟩
theorem se_make {k : Nat} {f : Addr} {fd : FuncData} {ps : List Str} {x : Str} {es : List Expr} {gl : WL} {c : List U → Hm → QU → Prop} {p pos : Pos} (Mk_ : Mk (kwX X) (cad (kwX X) x) f) (F : FnOk X.prog X.w (kwX X) X.mg X.base CX0 k f fd ps (spOf (kwX X) c)) (hr : Room (k + 1) X.A) (hg : Gl X x) (hm : X.mg x = some (.ref (cad (kwX X) x)))
    (cl : Cls (kwX X) (cad (kwX X) x)) (hb : Binds (kwX X) fd ps []) (hdb : (x == ("__debug__" : Str)) = false) (hs : es.all (fun e => !isStar e) = true) (h : SA X gl es) (hg0 : es = [] → gl = fun _ M Q => Q [] M) :
    SE1 X (fun σ M Q => gl σ M fun xs M1 => ∀ p, M1 p = none → c (.ref p :: xs) (um M1 p (.obj x [])) fun u M2 => u = .non ∧ Q (.ref p) M2) (.Call (.Name x p) es [] pos) := by
  obtain ⟨t, pt, q⟩ := h
  cases es with
  | nil =>
    rw [hg0 rfl]
    exact ⟨_, pe_make0 Mk_ F hr hg hm hb .nil pass0 hdb, ev_make cl (fun σ H σu M Qu Q rs S hf ct => ct _ _ _ _ (Stp.refl H M) S .nil hf)⟩
  | cons e es =>
    have hs2 : isStar e = false ∧ es.all (fun e => !isStar e) = true := by
      rw [List.all_cons, Bool.and_eq_true] at hs
      exact ⟨by simpa using hs.1, hs.2⟩
    exact ⟨_, pe_make Mk_ F hr hg hm hb .nil pass0 pt hdb (star_cons hs2.1) (star_plain hs2.2), ev_make cl q⟩
theorem se_prop {k : Nat} {pa f : Addr} {fd : FuncData} {ps : List Str} {m cn : Str} {o : Expr} {g : WE} {c : List U → Hm → QU → Prop} {pos : Pos} (F : FnOk X.prog X.w (kwX X) X.mg X.base CX0 k f fd ps (spOf (kwX X) c)) (hr : Room (k + 1) X.A) (cl : Cls (kwX X) (cad (kwX X) cn)) (hp : PropOf (kwX X) (cad (kwX X) cn) m pa f)
    (hb : Binds (kwX X) fd ps []) (hn : notSup o = true) (h1 : SE1 X g o) :
    SE1 X (fun σ M Q => g σ M fun x M1 => (∃ p fs, x = .ref p ∧ M1 p = some (.obj cn fs)) ∧ c [x] M1 Q) (.Attribute o m pos) := by
  obtain ⟨t1, p1, q1⟩ := h1
  refine ⟨_, pe_prop p1 cl hp F hr hb .nil pass0 (base_of hn), fun σ H σu M Qu Q rs S hf ct => ?_⟩
  refine q1 σ H σu M _ _ rs S hf fun v H1 u M1 st S1 r hq => ?_
  obtain ⟨⟨p, fs, rfl, e⟩, hq⟩ := hq
  obtain ⟨dx, vs, e1, rf, _, _⟩ := S1 _ _ e
  cases r
  exact ⟨p, dx, vs, rfl, e1, [.ref p], M1, Qu, S1, .cons (.ref p) .nil, hq, ct.tr S st⟩
theorem se_gl {x : Str} {v : V} {u : U} {w : Value} {p : Pos} (hg : Gl X x) (hm : X.mg x = some w) (r : RelV v w) (ru : ∀ H, Rel (kwX X) H v u) (hdb : (x == ("__debug__" : Str)) = false) : SE1 X (fun _ M Q => Q u M) (.Name x p) :=
  ⟨_, pe_glob hg hm r hdb, fun _ H _ _ _ _ _ S q c => c.at_ S (ru H) q⟩
theorem se_setdef {o e d : Expr} {f g h : WE} {apos pos : Pos} (hs : isStar e = false) (hs2 : isStar d = false) (hline : (apos.endLine == pos.line) = true) (hb : notSup o = true) (h1 : SE1 X f o) (h2 : SE1 X g e) (h3 : SE1 X h d) :
    SE1 X (fun σ M Q => f σ M fun x M1 => isDW x M1 ∧ g σ M1 fun y M2 => h σ M2 fun v M3 => setdefW x y v M3 Q) (.Call (.Attribute o "setdefault" apos) [e, d] [] pos) := by
  obtain ⟨t1, p1, q1⟩ := h1
  obtain ⟨t2, p2, q2⟩ := h2
  obtain ⟨t3, p3, q3⟩ := h3
  have hall : [e, d].all (fun e => !isStar e) = true := by simp [hs, hs2]
  refine ⟨_, pe_dsetd p1 p2 p3 ⟨base_of hb, few_args hall (by simp), hline, by rw [star_cons hs, star_cons hs2]; rfl⟩, fun σ H σu M Qu Q rs S hf c => ?_⟩
  refine q1 σ H σu M _ _ rs S hf fun v H1 u M1 st S1 r hq => ?_
  obtain ⟨⟨p, z, t, ks, rfl, hm⟩, hq⟩ := hq
  cases r
  have hd : IsD H1 p := by
    have q := S1 p _ hm
    cases t with
    | false => obtain ⟨kvs, e, _⟩ := q; exact .inl ⟨kvs, fz_rd e⟩
    | true => obtain ⟨kvs, e, _⟩ := q; exact .inr ⟨kvs, fz_rd e⟩
  refine ⟨p, rfl, hd, ?_⟩
  refine q2 σ H1 σu M1 _ _ (rs.stp S st) S1 hq fun y H2 uy M2 st2 S2 ry hq2 => ?_
  refine q3 σ H2 σu M2 _ _ (rs.stp S (st.trans S st2)) S2 hq2 fun w H3 uw M3 st3 S3 rw' hq3 => ?_
  obtain ⟨p', ks', e, hm3, hk, hl, hq3⟩ := hq3
  cases e
  have cc := c.tr S ((st.trans S st2).trans S st3)
  obtain ⟨kvs, e3, rk⟩ := S3 _ _ hm3
  have e3 : H3 p = some (.dK kvs) := e3
  obtain ⟨key, e1, e2⟩ := isKey_of hk (ry.stp S2 st3)
  refine ⟨kvs, key, e3, e2, by rw [rk.len]; exact lt_line hl, fun v hv => ?_, fun hv => ?_⟩
  · rcases rk.find key with ⟨h1, h2⟩ | ⟨v', u', h1, h2, h3⟩
    · rw [h1] at hv; cases hv
    · rw [h1] at hv
      cases hv
      rw [e1, h2] at hq3
      exact cc.at_ S3 h3 hq3
  · rcases rk.find key with ⟨h1, h2⟩ | ⟨v', u', h1, h2, h3⟩
    · rw [e1, h2] at hq3
      have st4 : Stp H3 M3 (upd H3 p (.dK (putK kvs key w))) (um M3 p (.dct false false (dput ks' (keyU key) uw))) := Stp.mut hm3
      refine cc _ _ uw _ st4 (S3.mut (m := .dct false false (dput ks' (keyU key) uw)) hm3 rfl ⟨_, upd_same, ?_⟩) (rw'.stp S3 st4) hq3
      exact RelK.put (Paired.mapR rk fun p q x => ⟨x.1, x.2.stp S3 st4⟩) key (rw'.stp S3 st4)
    · rw [h1] at hv; cases hv
theorem relL_strs {K : Kw} {H : Hp} : ∀ {ns : List Str} {vs : List V}, RelL K H vs (ns.map U.str) → vs = ns.map V.str
  | [], vs, h => by cases h; rfl
  | n :: ns, vs, h => by
    cases h with
    | cons a b => cases a; rw [relL_strs b]; rfl
def rTidx (K : Kw) : V → List V → Hp → VK → Prop := fun x xs H Q => ∃ p, ∃ ys : List Str, ∃ z j, x = .ref p ∧ xs = [.str z] ∧ SqT K H p (ys.map V.str) ∧ ys[j]? = some z ∧ (∀ m, m < j → ys[m]? ≠ some z) ∧ Q (.int (j : Nat)) H
theorem se_tidx {o e : Expr} {f g : WE} {apos pos : Pos} (hs : isStar e = false) (hline : (apos.endLine == pos.line) = true) (hb : notSup o = true) (h1 : SE1 X f o) (h2 : SE1 X g e) :
    SE1 X (fun σ M Q => f σ M fun x M1 => (∃ l, x = .dtp l) ∧ g σ M1 fun y M2 => tidxW x y M2 Q) (.Call (.Attribute o "index" apos) [e] [] pos) := by
  obtain ⟨t1, p1, q1⟩ := h1
  obtain ⟨t2, p2, q2⟩ := h2
  have pa := pa_cons p2 (pa_nil (X := X)) (star_cons hs)
  refine ⟨fun σ H Q => t1 σ H fun x H1 => (∃ a vs, x = .ref a ∧ Td (kwX X) H1 a vs) ∧ (tCons t2 tNil) σ H1 fun xs H2 => rTidx (kwX X) x xs H2 Q,
    ⟨fun pins s σ H Q I h => ?_⟩, fun σ H σu M Qu Q rs S hf c => ?_⟩
  · refine wpAny_Call_method_late (base_of hb) (few_args (by simp [hs]) (by simp)) hline rfl (thn (p1.run pins s σ H _ I h) fun v s1 ⟨x, H1, I1, r1, ⟨a, vs, ex, td⟩, q⟩ => ?_)
    subst ex
    obtain rfl : v = Value.ref a := r1
    obtain ⟨ob, hg, ⟨its, rv, hcl, n2, hda⟩, _, hd, _⟩ := td_obj I1 td
    refine ⟨"tuple", "tuple.index", PySem.F.plainAttrs_tuple, PySem.F.slot_tuple_index, PySem.F.type_tuple_index, ?_, fun b e => ?_, ?_⟩
    · exact ⟨ob, hg, hcl⟩
    · cases e
      exact ⟨ob, hg, hd⟩
    · have hA := pa.run pos pins s1 σ H1 _ I1 q
      rw [star_cons hs] at hA ⊢
      refine Calls.callWith_builtin (by rfl) (Calls.evalArgs_plain ?_)
      exact thn hA fun us s2 ⟨vs, H2, I2, r2, q2⟩ => mt_tup_index pins s2 σ H2 (.ref a) vs (.ref a) us Q I2 rfl r2 q2
  · refine q1 σ H σu M _ _ rs S hf fun v H1 u M1 st S1 r hq => ?_
    obtain ⟨⟨l, rfl⟩, hq⟩ := hq
    cases r with
    | dtp td rl =>
      refine ⟨⟨_, _, rfl, td⟩, ?_⟩
      refine q2 σ H1 σu M1 _ _ (rs.stp S st) S1 hq fun y H2 uy M2 st2 S2 ry hq2 => ?_
      obtain ⟨ys, z, j, e1, rfl, h3, h4, hq2⟩ := hq2
      cases e1
      cases ry
      have rl2 := relL_strs (rl.stp S1 st2)
      subst rl2
      exact ⟨_, ys, z, j, rfl, rfl, (td.stp S1 st2).sq, h3, h4, (c.tr S (st.trans S st2)).at_ S2 (.int _) hq2⟩
theorem rel_rg {K : Kw} {H : Hp} (a b : Int) : RelL K H (rgV a b) (rngU a b) := by
  unfold rgV rngU
  generalize List.range (b - a).toNat = l
  induction l with
  | nil => exact .nil
  | cons i l ih => exact .cons (.int _) ih
theorem rg_ok {a b : Int} (h1 : b ≤ LIM) (h2 : -LIM ≤ b) (h3 : a ≤ LIM) (h4 : -LIM ≤ a) : RgOk a b := by
  unfold LIM at *
  refine ⟨by omega, by omega, by omega, by omega, by omega⟩
/-- list(range(b)), tuple(range(b)) -/
theorem se_lrng1 {t : Bool} {b : Expr} {g : WE} {x y : Str} {p p2 pos pos2 : Pos} (hc : X.calm = true) (hx : x = if t = true then ("tuple" : Str) else ("list" : Str)) (hy : y = "range") (hg : Gl X x) (hm : X.mg x = none) (hg2 : Gl X y) (hm2 : X.mg y = none) (hs : isStar b = false) (h : SE1 X g b) :
    SE1 X (fun σ M Q => g σ M fun y M2 => ∃ n, y = .int n ∧ n ≤ LIM ∧ -LIM ≤ n ∧ (0 : Int) ≤ LIM ∧ -LIM ≤ (0 : Int) ∧ if t = true then Q (.tup (rngU 0 n)) M2 else ∀ p, M2 p = none → Q (.ref p) (um M2 p (.lst (rngU 0 n))))
      (.Call (.Name x p) [.Call (.Name y p2) [b] [] pos2] [] pos) := by
  obtain ⟨t1, p1, q1⟩ := h
  subst hy
  have pr := prg_1 (p := p2) (pos := pos2) hg2 hm2 p1 (star_cons hs)
  cases t with
  | true =>
    subst hx
    refine ⟨_, pe_tupRg hc hg hm pr (star_cons rfl), fun σ H σu M Qu Q rs S hf ct => ?_⟩
    refine q1 σ H σu M _ _ rs S hf fun v H1 u M1 st S1 r hq => ?_
    obtain ⟨n, rfl, b1, b2, b3, b4, hq⟩ := hq
    cases r
    exact ⟨n, rfl, rg_ok b1 b2 b3 b4, fun q hq2 => (ct.tr S st).tup S1 (rel_rg 0 n) hq hq2⟩
  | false =>
    subst hx
    refine ⟨_, pe_listRg hc hg hm pr (star_cons rfl), fun σ H σu M Qu Q rs S hf ct => ?_⟩
    refine q1 σ H σu M _ _ rs S hf fun v H1 u M1 st S1 r hq => ?_
    obtain ⟨n, rfl, b1, b2, b3, b4, hq⟩ := hq
    cases r
    exact ⟨n, rfl, rg_ok b1 b2 b3 b4, fun q hq2 => (ct.tr S st).lst S1 (rel_rg 0 n) hq hq2⟩
theorem se_lrng2 {t : Bool} {a b : Expr} {f g : WE} {x y : Str} {p p2 pos pos2 : Pos} (hc : X.calm = true) (hx : x = if t = true then ("tuple" : Str) else ("list" : Str)) (hy : y = "range") (hg : Gl X x) (hm : X.mg x = none) (hg2 : Gl X y) (hm2 : X.mg y = none) (hs : isStar a = false) (hs2 : isStar b = false) (h0 : SE1 X f a) (h : SE1 X g b) :
    SE1 X (fun σ M Q => f σ M fun x M1 => ∃ i, x = .int i ∧ g σ M1 fun y M2 => ∃ n, y = .int n ∧ n ≤ LIM ∧ -LIM ≤ n ∧ i ≤ LIM ∧ -LIM ≤ i ∧ if t = true then Q (.tup (rngU i n)) M2 else ∀ p, M2 p = none → Q (.ref p) (um M2 p (.lst (rngU i n))))
      (.Call (.Name x p) [.Call (.Name y p2) [a, b] [] pos2] [] pos) := by
  obtain ⟨t0, p0, q0⟩ := h0
  obtain ⟨t1, p1, q1⟩ := h
  subst hy
  have pr := prg_2 (p := p2) (pos := pos2) hg2 hm2 p0 p1 (star_cons hs) (star_cons hs2) (star_plain (by simp [hs2]))
  cases t with
  | true =>
    subst hx
    refine ⟨_, pe_tupRg hc hg hm pr (star_cons rfl), fun σ H σu M Qu Q rs S hf ct => ?_⟩
    refine q0 σ H σu M _ _ rs S hf fun v0 H0 u0 M0 st0 S0 r0 hq => ?_
    obtain ⟨i, rfl, hq⟩ := hq
    refine q1 σ H0 σu M0 _ _ (rs.stp S st0) S0 hq fun v H1 u M1 st S1 r hq => ?_
    obtain ⟨n, rfl, b1, b2, b3, b4, hq⟩ := hq
    cases r
    cases r0
    exact ⟨i, n, rfl, rfl, rg_ok b1 b2 b3 b4, fun q hq2 => (ct.tr S (st0.trans S st)).tup S1 (rel_rg i n) hq hq2⟩
  | false =>
    subst hx
    refine ⟨_, pe_listRg hc hg hm pr (star_cons rfl), fun σ H σu M Qu Q rs S hf ct => ?_⟩
    refine q0 σ H σu M _ _ rs S hf fun v0 H0 u0 M0 st0 S0 r0 hq => ?_
    obtain ⟨i, rfl, hq⟩ := hq
    refine q1 σ H0 σu M0 _ _ (rs.stp S st0) S0 hq fun v H1 u M1 st S1 r hq => ?_
    obtain ⟨n, rfl, b1, b2, b3, b4, hq⟩ := hq
    cases r
    cases r0
    exact ⟨i, n, rfl, rfl, rg_ok b1 b2 b3 b4, fun q hq2 => (ct.tr S (st0.trans S st)).lst S1 (rel_rg i n) hq hq2⟩
end
end Pl

set_option maxHeartbeats 4000000
/-! dict displays: texts and ints as keys -/
namespace Pl
open PySem L2
def flatV (ps : List (V × V)) : List V := ps.flatMap fun p => [p.1, p.2]
def EvPs (K : Kw) (trs : List (TE × TE)) (f : WL) : Prop := ∀ (σ : L2.St) (H : Hp) (σu : SU) (M : Hm) (Qu : List U → Hm → Prop) (Q : List (V × V) → Hp → Prop), RelS K H σ σu → Sim K H M → f σu M Qu →
  (∀ ps H' us M', Stp H M H' M' → Sim K H' M' → RelL K H' (flatV ps) us → Qu us M' → Q ps H') → tPairs trs σ H Q
def SPs (X : Cx) (pos : Pos) (f : WL) (keys : List (Option Expr)) (values : List Expr) : Prop := ∃ trs, PPs X pos keys values trs ∧ EvPs (kwX X) trs f
section
variable {X : Cx}
theorem sps_nil {pos : Pos} : SPs X pos (fun _ M Q => Q [] M) [] [] := ⟨[], pps_nil, fun σ H σu M Qu Q rs S hf c => c [] H [] M (Stp.refl H M) S .nil hf⟩
theorem sps_cons {pos : Pos} {k v : Expr} {ks : List (Option Expr)} {vs : List Expr} {fk fv : WE} {g : WL} (h1 : SE1 X fk k) (h2 : SE1 X fv v) (h3 : SPs X pos g ks vs) :
    SPs X pos (fun σ M Q => fk σ M fun x M1 => fv σ M1 fun y M2 => g σ M2 fun us M3 => Q (x :: y :: us) M3) (some k :: ks) (v :: vs) := by
  obtain ⟨t1, p1, q1⟩ := h1
  obtain ⟨t2, p2, q2⟩ := h2
  obtain ⟨trs, p3, q3⟩ := h3
  refine ⟨_, pps_cons p1 p2 p3, fun σ H σu M Qu Q rs S hf c => ?_⟩
  refine q1 σ H σu M _ _ rs S hf fun x H1 ux M1 st1 S1 rx hf1 => ?_
  refine q2 σ H1 σu M1 _ _ (rs.stp S st1) S1 hf1 fun y H2 uy M2 st2 S2 ry hf2 => ?_
  refine q3 σ H2 σu M2 _ _ ((rs.stp S st1).stp S1 st2) S2 hf2 fun ps H3 us M3 st3 S3 rl hq => ?_
  exact c ((x, y) :: ps) H3 (ux :: uy :: us) M3 ((st1.trans S st2).trans S st3) S3 (.cons ((rx.stp S1 st2).stp S2 st3) (.cons (ry.stp S2 st3) rl)) hq
theorem key_rel {K : Kw} {H : Hp} {k : Key} {x : V} (r : Rel K H x (keyU k)) : x = kV k := by
  cases k <;> (cases r; rfl)
theorem flat_rel {K : Kw} {H : Hp} : ∀ {kvs : List (Key × U)} {ps : List (V × V)}, RelL K H (flatV ps) (flatU kvs) → ∃ kws : List (Key × V), ps = kws.map (fun kv => (kV kv.1, kv.2)) ∧ Paired (fun (p : Key × V) (q : Key × U) => p.1 = q.1 ∧ Rel K H p.2 q.2) kws kvs
  | [], [], _ => ⟨[], rfl, .nil⟩
  | [], p :: ps, r => by cases r
  | q :: kvs, [], r => by cases r
  | q :: kvs, p :: ps, r => by
    have r : RelL K H (p.1 :: p.2 :: flatV ps) (keyU q.1 :: q.2 :: flatU kvs) := r
    cases r with
    | cons a r =>
      cases r with
      | cons b r =>
        obtain ⟨kws, e, pr⟩ := flat_rel r
        refine ⟨(q.1, p.2) :: kws, ?_, .cons ⟨rfl, b⟩ pr⟩
        rw [List.map_cons, ← e, ← key_rel a]
theorem merge_rel {K : Kw} {H : Hp} : ∀ {kws : List (Key × V)} {kvs : List (Key × U)} {a : List (Key × V)} {b : List (U × U)}, Paired (fun (p : Key × V) (q : Key × U) => p.1 = q.1 ∧ Rel K H p.2 q.2) kws kvs → RelK K H a b → RelK K H (mergeK a kws) (dputs kvs b) := by
  intro kws kvs a b pr
  induction pr generalizing a b with
  | nil => exact id
  | @cons p q ps qs h _ ih =>
    intro r
    refine ih ?_
    show RelK K H (putK a p.1 p.2) (dput b (keyU q.1) q.2)
    rw [← h.1]
    exact RelK.put r p.1 h.2
theorem pair_len {kws : List (Key × V)} {kvs : List (Key × U)} {F : Key × V → Key × U → Prop} (h : Paired F kws kvs) : kws.length = kvs.length := Paired.length h
theorem se_ddisp {pos : Pos} {keys : List (Option Expr)} {values : List Expr} {f : WL} (h : SPs X pos f keys values) (hall : keys.all (·.isSome) = true) (hl : keys.length = values.length) (h0 : keys ≠ []) (h15 : keys.length ≤ 15) : SE1 X (ddispW f) (.Dict keys values pos) := by
  obtain ⟨trs, pp, q⟩ := h
  refine ⟨_, pe_disp pp hall hl h0 h15, fun σ H σu M Qu Q rs S hf c p hp => ?_⟩
  have S1 : Sim (kwX X) (upd H p (.dK [])) (um M p (.dct false false [])) := S.new (m := .dct false false []) hp ⟨[], upd_same, .nil⟩
  have st1 : Stp H M (upd H p (.dK [])) (um M p (.dct false false [])) := Stp.new S hp
  refine q σ _ σu _ _ _ (rs.stp S st1) S1 (hf p (S.fr hp)) fun ps H2 us M2 st2 S2 rl hq => ?_
  obtain ⟨hm, kvs, rfl, hk, hq⟩ := hq
  obtain ⟨kws, e, pr⟩ := flat_rel rl
  have q2 := S2 p _ hm
  obtain ⟨kvs0, e0, r0⟩ := q2
  have e0 : H2 p = some (.dK kvs0) := e0
  cases r0
  refine ⟨e0, kws, e, by rw [pair_len pr]; exact hk, ?_⟩
  have st3 : Stp H2 M2 (upd H2 p (.dK (mergeK [] kws))) (um M2 p (.dct false false (dputs kvs []))) := Stp.mut hm
  refine c _ _ (.ref p) _ ((st1.trans S st2).trans S st3) (S2.mut (m := .dct false false (dputs kvs [])) hm rfl ⟨_, upd_same, ?_⟩) (.ref p) hq
  exact merge_rel (Paired.mapR pr fun a b x => ⟨x.1, x.2.stp S2 st3⟩) .nil
/-- element by element -/
inductive SEs (X : Cx) : WL → List Expr → Prop where
  | nil : SEs X (fun _ M Q => Q [] M) []
  | cons {e : Expr} {es : List Expr} {f : WE} {g : WL} : SE1 X f e → SEs X g es → SEs X (fun σ M Q => f σ M fun x M1 => g σ M1 fun xs M2 => Q (x :: xs) M2) (e :: es)
def flatK : List (Option Expr) → List Expr → List Expr
  | some k :: ks, v :: vs => k :: v :: flatK ks vs
  | _, _ => []
theorem sps_of {pos : Pos} : ∀ {keys : List (Option Expr)} {values : List Expr} {f : WL}, SEs X f (flatK keys values) → keys.all (·.isSome) = true → keys.length = values.length → SPs X pos f keys values
  | [], [], _, h, _, _ => by cases h; exact sps_nil
  | [], _ :: _, _, _, _, hl => by cases hl
  | _ :: _, [], _, _, _, hl => by cases hl
  | none :: _, _ :: _, _, _, ha, _ => by simp at ha
  | some k :: ks, v :: vs, _, h, ha, hl => by
    have h : SEs X _ (k :: v :: flatK ks vs) := h
    cases h with
    | cons h1 h =>
      cases h with
      | cons h2 h3 => exact sps_cons h1 h2 (sps_of h3 (by simpa using ha) (by simpa using hl))
end
end Pl

set_option maxHeartbeats 4000000
/-! targets, comprehensions, statements -/
namespace Pl
open PySem L2
def ContS (K : Kw) (H : Hp) (M : Hm) (Qu : SU → Hm → Prop) (Q : L2.St → Hp → Prop) : Prop := ∀ σ' H' σu' M', Stp H M H' M' → RelS K H' σ' σu' → Sim K H' M' → Qu σu' M' → Q σ' H'
/-- a target, assigned -/
def EvG (K : Kw) (t : TG) (tg : Tg) : Prop := ∀ (x : V) (u : U) (σ : L2.St) (H : Hp) (σu : SU) (M : Hm) (Qu : SU → Prop) (Q : L2.St → Hp → Prop), RelS K H σ σu → Rel K H x u → tgW tg u σu Qu →
  (∀ σ' σu', RelS K H σ' σu' → Qu σu' → (∀ vs, (∀ i ∈ tg.slots, i ∈ vs) → L2.wipe σ' vs = L2.wipe σ vs) → Q σ' H) → t x σ H Q
def SG (X : Cx) (e : Expr) (tg : Tg) : Prop := ∃ t, PG X e t ∧ EvG (kwX X) t tg
theorem setAll_len : ∀ (is : List Nat) (l : List U) (σ σ' : SU), setAll is l σ = some σ' → l.length = is.length
  | [], [], _, _, _ => rfl
  | [], _ :: _, _, _, h => by cases h
  | _ :: _, [], _, _, h => by cases h
  | i :: is, u :: us, σ, σ', h => by
    have q := setAll_len is us _ σ' h
    rw [List.length_cons, List.length_cons, q]
theorem wipe_set (σ : L2.St) (i : Nat) (x : Option V) : ∀ vs : List Nat, i ∈ vs → L2.wipe (σ.set i x) vs = L2.wipe σ vs
  | [], h => by cases h
  | v :: vs, h => by
    unfold L2.wipe
    by_cases hv : i ∈ vs
    · rw [wipe_set σ i x vs hv]
    · have e : i = v := by
        rcases List.mem_cons.mp h with e | e
        · exact e
        · exact absurd e hv
      subst e
      have h2 : ∀ ws : List Nat, i ∉ ws → L2.wipe (σ.set i x) ws = (L2.wipe σ ws).set i x := by
        intro ws
        induction ws with
        | nil => intro _; rfl
        | cons w ws ih =>
          intro hw
          have h3 : i ∉ ws := fun z => hw (List.mem_cons_of_mem _ z)
          have h4 : w ≠ i := fun z => hw (by rw [z]; exact List.mem_cons_self)
          unfold L2.wipe
          rw [ih h3, List.set_comm _ _ (fun z => h4 z.symm)]
      rw [h2 vs hv, List.set_set]
section
variable {X : Cx}
theorem sg_one {i : Nat} {x : Str} {pos : Pos} (hN : X.N.Nodup) (hi : X.N[i]? = some x) (hx : Loc X.env.scope x) (hf : X.fn x = true ∨ X.env.scope.names.lookup x = some .local) : SG X (.Name x pos) (.one i) :=
  ⟨_, pg_name hN hi hx hf, fun v u σ H σu M Qu Q rs r h c => c _ _ (rs.set r i) h fun vs hv => wipe_set σ i _ vs (hv i (by simp [Tg.slots]))⟩
/-- the names and their slots -/
def namesB (N : List Str) (ok : Str → Bool) : List Nat → List Expr → Bool
  | [], [] => true
  | i :: is, .Name x _ :: es => decide (N[i]? = some x) && ok x && namesB N ok is es
  | _, _ => false
theorem names_each {N : List Str} {ok : Str → Bool} {env : Env} : ∀ {is : List Nat} {es : List Expr}, namesB N ok is es = true → (assignEach es env).length = is.length ∧ (assignEach es env).findIdx? (·.1) = none
  | [], [], _ => ⟨rfl, rfl⟩
  | i :: is, e :: es, h => by
    cases e <;> first | (simp [namesB] at h; done) | skip
    unfold namesB at h
    rw [Bool.and_eq_true] at h
    obtain ⟨a, b⟩ := names_each (env := env) h.2
    refine ⟨?_, ?_⟩
    · show (assignEach es env).length + 1 = is.length + 1
      rw [a]
    · show List.findIdx? (·.1) ((false, _) :: assignEach es env) = none
      rw [List.findIdx?_cons]
      simp only [Bool.false_eq_true, if_false]
      rw [b]
      rfl
  | [], _ :: _, h => by simp [namesB] at h
  | _ :: _, [], h => by simp [namesB] at h
theorem sgs_names {ok : Str → Bool} (hN : X.N.Nodup) (hok : ∀ x, ok x = true → Loc X.env.scope x ∧ (X.fn x = true ∨ X.env.scope.names.lookup x = some .local)) : ∀ {is : List Nat} {es : List Expr}, namesB X.N ok is es = true →
    ∃ t, PGs X es t ∧ ∀ (vs : List V) (us : List U) (σ : L2.St) (H : Hp) (σu σu' : SU) (Q : L2.St → Hp → Prop), RelS (kwX X) H σ σu → RelL (kwX X) H vs us → setAll is us σu = some σu' →
      (∀ σ', RelS (kwX X) H σ' σu' → (∀ ws, (∀ i ∈ is, i ∈ ws) → L2.wipe σ' ws = L2.wipe σ ws) → Q σ' H) → t vs σ H Q
  | [], [], _ => ⟨_, pgs_nil, fun vs us σ H σu σu' Q rs r h c => by
    cases us with
    | nil =>
      cases r
      have e : some σu = some σu' := h
      cases e
      exact ⟨rfl, c σ rs fun _ _ => rfl⟩
    | cons _ _ => cases h⟩
  | i :: is, e :: es, h => by
    cases e <;> first | (simp [namesB] at h; done) | skip
    rename_i x pos
    unfold namesB at h
    rw [Bool.and_eq_true, Bool.and_eq_true] at h
    obtain ⟨⟨h1, h2⟩, h3⟩ := h
    obtain ⟨t, p, q⟩ := sgs_names hN hok h3
    obtain ⟨l1, l2⟩ := hok x h2
    refine ⟨_, pgs_cons (pg_name hN (of_decide_eq_true h1) l1 l2) p rfl, fun vs us σ H σu σu' Q rs r hs c => ?_⟩
    cases us with
    | nil => cases hs
    | cons u us =>
      cases r with
      | cons ra rb =>
        refine ⟨_, _, rfl, ?_⟩
        refine q _ _ _ H _ _ Q (rs.set ra i) rb hs fun σ' rs' hw => c σ' rs' fun ws hws => ?_
        rw [hw ws fun j hj => hws j (List.mem_cons_of_mem _ hj), wipe_set _ _ _ _ (hws i List.mem_cons_self)]
  | [], _ :: _, h => by simp [namesB] at h
  | _ :: _, [], h => by simp [namesB] at h
theorem sg_many {ok : Str → Bool} {is : List Nat} {es : List Expr} {k : Nat} {pos : Pos} (hc : X.calm = true) (hN : X.N.Nodup) (hok : ∀ x, ok x = true → Loc X.env.scope x ∧ (X.fn x = true ∨ X.env.scope.names.lookup x = some .local)) (h : namesB X.N ok is es = true) :
    SG X (.Tuple es k pos) (.many is) := by
  obtain ⟨t, p, q⟩ := sgs_names hN hok h
  obtain ⟨l1, l2⟩ := names_each (env := X.env) h
  refine ⟨_, pg_tup hc p l1 l2, fun v u σ H σu M Qu Q rs r hq c => ?_⟩
  obtain ⟨l, σ', rfl, hs, hq⟩ := hq
  cases r with
  | tup t1 rl =>
    have hlen : l.length = is.length := setAll_len is l σu σ' hs
    refine ⟨_, _, rfl, t1.sq, by rw [rl.length, hlen], ?_⟩
    exact q _ _ _ H _ _ Q rs rl hs fun σ1 rs1 hw => c σ1 σ' rs1 hq hw
end

/-! ### comprehensions -/
theorem Rel_updD {K : Kw} {H : Hp} {D : Addr} {xs ys : List V} (hD : H D = some (.lst xs)) : (∀ {v : V} {u : U}, Rel K H v u → Rel K (upd H D (.lst ys)) v u) ∧ (∀ {v : List V} {u : List U}, RelL K H v u → RelL K (upd H D (.lst ys)) v u) := by
  have tp : ∀ {a : Addr} {vs : List V}, Tp K H a vs → Tp K (upd H D (.lst ys)) a vs := fun {a vs} h => by
    rcases h with h | h
    case inr => exact .inr h
    have ne : a ≠ D := fun e => by
      have h2 : H a = some (.tup vs) := h
      rw [e, hD] at h2
      cases h2
    exact .inl ((upd_ne ne).trans h)
  have td : ∀ {a : Addr} {vs : List V}, Td K H a vs → Td K (upd H D (.lst ys)) a vs := fun {a vs} h => by
    rcases h with ⟨o, h, d⟩ | h
    · have ne : a ≠ D := fun e => by
        rw [e, hD] at h
        cases h
      exact .inl ⟨o, (upd_ne ne).trans h, d⟩
    · exact .inr h
  have rl : ∀ {a : Addr} {vs : List V}, Rl K H a vs → Rl K (upd H D (.lst ys)) a vs := fun {a vs} h => by
    rcases h with ⟨o, h⟩ | h
    · have ne : a ≠ D := fun e => by
        rw [e, hD] at h
        cases h
      exact .inl ⟨o, (upd_ne ne).trans h⟩
    · exact .inr h
  have both : ∀ n : Nat, (∀ {v : V} {u : U}, sizeOf u ≤ n → Rel K H v u → Rel K (upd H D (.lst ys)) v u) ∧ (∀ {v : List V} {u : List U}, sizeOf u ≤ n → RelL K H v u → RelL K (upd H D (.lst ys)) v u) := by
    intro n
    induction n with
    | zero =>
      refine ⟨fun {v u} h r => ?_, fun {v u} h r => ?_⟩
      · cases u <;> simp at h
      · cases u <;> simp at h
    | succ n ih =>
      refine ⟨fun {v u} h r => ?_, fun {v u} h r => ?_⟩
      · cases r with
        | non => exact .non
        | bl b => exact .bl b
        | int i => exact .int i
        | str x => exact .str x
        | ref a => exact .ref a
        | tup t rr => exact .tup (tp t) (ih.2 (by simp at h; omega) rr)
        | rol t rr => exact .rol (rl t) (ih.2 (by simp at h; omega) rr)
        | dtp t rr => exact .dtp (td t) (ih.2 (by simp at h; omega) rr)
      · cases r with
        | nil => exact .nil
        | cons a b => exact .cons (ih.1 (by simp at h; omega) a) (ih.2 (by simp at h; omega) b)
  exact ⟨fun {v u} r => (both _).1 (Nat.le_refl _) r, fun {v u} r => (both _).2 (Nat.le_refl _) r⟩
theorem Sim_updD {K : Kw} {H : Hp} {M : Hm} {D : Addr} {xs ys : List V} (S : Sim K H M) (hD : H D = some (.lst xs)) (hM : M D = none) : Sim K (upd H D (.lst ys)) M := fun a o e => by
  have ne : a ≠ D := fun z => by rw [z, hM] at e; cases e
  obtain ⟨f, g⟩ := @Rel_updD K H D xs ys hD
  have q := S a o e
  cases o with
  | lst us =>
    obtain ⟨vs, e1, r⟩ := q
    exact ⟨vs, by rw [upd_ne ne]; exact e1, g r⟩
  | dct z t ks =>
    cases t with
    | false => obtain ⟨kvs, e1, r⟩ := q; exact ⟨kvs, by rw [upd_ne ne]; exact e1, Paired.mapR r fun p q x => ⟨x.1, f x.2⟩⟩
    | true => obtain ⟨kvs, e1, r⟩ := q; exact ⟨kvs, by rw [upd_ne ne]; exact e1, Paired.mapR r fun p q x => ⟨x.1, f x.2⟩⟩
  | dcn ks => obtain ⟨xs, e1, r, r2⟩ := q; exact ⟨xs, by rw [upd_ne ne]; exact e1, Paired.mapR r fun p q x => ⟨⟨x.1.1, x.1.2.1, f x.1.2.2⟩, x.2.elim fun v y => ⟨v, y.1, f y.2⟩⟩, r2⟩
  | obj cn fs => obtain ⟨dx, vs, e1, r, r2⟩ := q; exact ⟨dx, vs, by rw [upd_ne ne]; exact e1, Paired.mapR r fun p q x => ⟨x.1, f x.2⟩, r2⟩
theorem wipe_wipe (σ : L2.St) (ws : List Nat) : L2.wipe (L2.wipe σ ws) ws = L2.wipe σ ws := by
  have gen : ∀ (us ws : List Nat) (τ : L2.St), (∀ i ∈ us, i ∈ ws) → L2.wipe (L2.wipe τ us) ws = L2.wipe τ ws := by
    intro us
    induction us with
    | nil => intro ws τ _; rfl
    | cons u us ih =>
      intro ws τ hsub
      show L2.wipe ((L2.wipe τ us).set u none) ws = _
      rw [wipe_set _ _ _ _ (hsub u List.mem_cons_self)]
      exact ih ws τ fun i hi => hsub i (List.mem_cons_of_mem _ hi)
  exact gen ws ws σ fun i hi => hi
abbrev stepW (tg : Tg) (fc : WT) (fe : WE) (σu : SU) : U → (Option U → Hm → Prop) → Hm → Prop := fun x k M => tgW tg x (wipU σu tg.slots) fun σ2 => fc σ2 M fun b M2 => if b = true then fe σ2 M2 fun y M3 => k (some y) M3 else k none M2
theorem comp_core {K : Kw} {tgr : TG} {tg : Tg} {tt : TT} {fc : WT} {te : TE} {fe : WE} {vs : List Nat} (qg : EvG K tgr tg) (qc : EvT K tt fc) (qe : EvE K te fe) (hvs : vs = tg.slots)
    {σ : L2.St} {σu : SU} {H1 : Hp} {M1 : Hm} {J : It} {items : List U} {g : Hm → Prop} {fin : List U → Hm → Prop} (rs : RelS K H1 σ σu) (S1 : Sim K H1 M1) (ok : ItOk K H1 M1 J items g) (hg0 : g M1)
    (hc : compL (stepW tg fc fe σu) g fin items [] M1) {Q : VK}
    (hfin : ∀ D acc accV H2 M2, H1 D = none → Stp H1 M1 H2 M2 → Sim K H2 M2 → M2 D = none → H2 D = some (.lst accV) → RelL K H2 accV acc → g M2 → fin acc M2 → Q (.ref D) H2) :
    ∀ D, H1 D = none → ∃ W : Nat → Nat → Hp → Prop, (∃ m, W 0 m (upd H1 D (.lst []))) ∧ ∀ i m H, W i m H →
      (J.stop i H ∧ Q (.ref D) H) ∨ (J.go i H ∧ ∃ Nx : Hp → Prop, (∀ H', Nx H' → ∃ m', m' < m ∧ W (i + 1) m' H') ∧ ∀ x H', J.yld i H x H' → tgr x (L2.wipe σ vs) H' fun σ2 H2 => L2.wipe σ2 vs = L2.wipe σ vs ∧ tt σ2 H2 fun b H3 =>
        if b = true then te σ2 H3 fun y H4 => ∃ acc, H4 D = some (.lst acc) ∧ acc.length < sizeLine ∧ Nx (upd H4 D (.lst (acc ++ [y]))) else Nx H3) := fun D hD => by
  have hMD : M1 D = none := S1.fr hD
  have neD : ∀ a o, H1 a = some o → a ≠ D := fun a o h z => by rw [z, hD] at h; cases h
  have neM : ∀ a o, M1 a = some o → a ≠ D := fun a o h z => by rw [z, hMD] at h; cases h
  let W : Nat → Nat → Hp → Prop := fun i m H2 => m = items.length - i ∧ i ≤ items.length ∧ ∃ (M2 : Hm) (acc : List U) (accV : List V), Stp H1 M1 H2 M2 ∧ Sim K H2 M2 ∧ M2 D = none ∧ H2 D = some (.lst accV) ∧ RelL K H2 accV acc ∧ g M2 ∧
    compL (stepW tg fc fe σu) g fin (items.drop i) acc M2
  refine ⟨W, ⟨items.length, by simp, Nat.zero_le _, M1, [], [], Stp.newT S1 hD, ?_, hMD, upd_same, .nil, hg0, hc⟩, ?_⟩
  · exact S1.to (Stp.newT S1 hD) fun a x e => .inl ⟨e, upd_ne (neM a x e)⟩
  · rintro i m H2 ⟨rfl, hi, M2, acc, accV, st2, S2, hMD2, hD2, racc, hg, hc⟩
    obtain ⟨go, stop⟩ := ok i H2 M2 st2 S2 hg
    by_cases hlt : i < items.length
    · right
      have hu : items[i]? = some items[i] := List.getElem?_eq_getElem hlt
      obtain ⟨jgo, jy⟩ := go _ hu
      refine ⟨jgo, fun H' => ∃ m', m' < items.length - i ∧ W (i + 1) m' H', fun H' h => h, fun x H3 hy => ?_⟩
      obtain ⟨st3, S3, rx⟩ := jy x H3 hy
      have hdrop : items.drop i = items[i] :: items.drop (i + 1) := List.drop_eq_getElem_cons hlt
      rw [hdrop] at hc
      have hc : tgW tg items[i] (wipU σu tg.slots) fun σ2 => fc σ2 M2 fun b M3 => if b = true then fe σ2 M3 fun y M4 => (g M4 ∧ ((some y : Option U).isSome = true → acc.length < LIM) ∧ compL (stepW tg fc fe σu) g fin (items.drop (i + 1)) (acc ++ (some y).toList) M4)
          else (g M3 ∧ ((none : Option U).isSome = true → acc.length < LIM) ∧ compL (stepW tg fc fe σu) g fin (items.drop (i + 1)) (acc ++ (none : Option U).toList) M3) := hc
      have rs3 : RelS K H3 (L2.wipe σ vs) (wipU σu tg.slots) := by
        rw [hvs]
        exact (rs.stp S1 (st2.trans S1 st3)).wipe _
      refine qg x items[i] (L2.wipe σ vs) H3 (wipU σu tg.slots) M2 _ _ rs3 rx hc fun σ4 σu4 rs4 hc4 hw => ?_
      refine ⟨by
        have e := hw vs (by rw [hvs]; exact fun i hi => hi)
        rw [e]
        exact wipe_wipe σ vs, ?_⟩
      refine qc σ4 H3 σu4 M2 _ _ rs4 S3 hc4 fun b H5 M5 st5 S5 hb => ?_
      have stA : Stp H1 M1 H5 M5 := (st2.trans S1 st3).trans S1 st5
      have hD3 := st3.keep D _ hD2 hMD2
      have hD5 := st5.keep D _ hD3.1 hD3.2
      cases b with
      | false =>
        obtain ⟨g5, _, hrest⟩ := hb
        refine ⟨_, by omega, rfl, by omega, M5, acc, accV, stA, S5, hD5.2, hD5.1, (racc.stp S2 st3).stp S3 st5, g5, ?_⟩
        simpa using hrest
      | true =>
        refine qe σ4 H5 σu4 M5 _ _ (rs4.stp S3 st5) S5 hb fun y H6 uy M6 st6 S6 ry hk => ?_
        obtain ⟨g6, hsz, hrest⟩ := hk
        have hD6 := st6.keep D _ hD5.1 hD5.2
        have racc6 := ((racc.stp S2 st3).stp S3 st5).stp S5 st6
        obtain ⟨f1, f2⟩ := @Rel_updD K H6 D accV (accV ++ [y]) hD6.1
        refine ⟨accV, hD6.1, by rw [racc6.length]; exact lt_line (hsz rfl), _, by omega, rfl, by omega, M6, acc ++ [uy], accV ++ [y], ⟨fun a o h n => ?_, fun a t ks e => ?_⟩, Sim_updD S6 hD6.1 hD6.2, hD6.2, upd_same, f2 (racc6.append (.cons ry .nil)), g6, hrest⟩
        · have z := (stA.trans S1 st6).keep a o h n
          exact ⟨by rw [upd_ne (neD a o h)]; exact z.1, z.2⟩
        · have z := (stA.trans S1 st6).lock a t ks e
          exact ⟨by rw [upd_ne (neM a _ e)]; exact z.1, z.2⟩
    · left
      have e : i = items.length := by omega
      subst e
      refine ⟨stop rfl, hfin D acc accV H2 M2 hD st2 S2 hMD2 hD2 racc hg ?_⟩
      have z := hc
      rw [List.drop_length] at z
      exact z
/-- the new list joins what may change -/
theorem join_new {K : Kw} {H : Hp} {M : Hm} {H1 : Hp} {M1 : Hm} {H2 : Hp} {M2 : Hm} {D : Addr} {acc : List U} {accV : List V} (S : Sim K H M) (st : Stp H M H1 M1) (S1 : Sim K H1 M1) (hD : H1 D = none) (st2 : Stp H1 M1 H2 M2) (S2 : Sim K H2 M2) (hD2 : H2 D = some (.lst accV)) (r : RelL K H2 accV acc) :
    Stp H M H2 (um M2 D (.lst acc)) ∧ Sim K H2 (um M2 D (.lst acc)) := by
  have z := st.trans S st2
  refine ⟨⟨fun a o h n => ?_, fun a t ks e => ?_⟩, fun a o ha => ?_⟩
  · have ne : a ≠ D := fun q => by
      have h2 := (st.keep a o h n).1
      rw [q, hD] at h2
      cases h2
    exact ⟨(z.keep a o h n).1, by rw [um_ne ne]; exact (z.keep a o h n).2⟩
  · have ne : a ≠ D := fun q => by
      obtain ⟨x, hx⟩ := (S a _ e).has
      have h2 := (st.lock a t ks e).1
      rw [hx, q, hD] at h2
      cases h2
    exact ⟨(z.lock a t ks e).1, by rw [um_ne ne]; exact (z.lock a t ks e).2⟩
  · by_cases hz : a = D
    · subst hz
      rw [um_same] at ha
      cases ha
      exact ⟨accV, hD2, r⟩
    · rw [um_ne hz] at ha
      exact S2 a o ha
theorem ev_comp {K : Kw} {ti : TI} {fi : WI} {tgr : TG} {tg : Tg} {tt : TT} {fc : WT} {te : TE} {fe : WE} {vs : List Nat} (qi : EvI K ti fi) (qg : EvG K tgr tg) (qc : EvT K tt fc) (qe : EvE K te fe) (hvs : vs = tg.slots) :
    EvE K (tLc ti tgr tt te vs) (compW fi tg fc fe) := fun σ H σu M Qu Q rs S hf c => by
  refine qi σ H σu M _ _ rs S hf fun J H1 items g ex M1 st S1 ok hg0 hex hq => ?_
  subst hex
  refine comp_core qg qc qe hvs (rs.stp S st) S1 ok hg0 hq fun D acc accV H2 M2 hD st2 S2 hMD2 hD2 r hg hfin => ?_
  obtain ⟨a, b⟩ := join_new S st S1 hD st2 S2 hD2 r
  exact c (.ref D) H2 (.ref D) _ a b (.ref D) (hfin D hMD2)
/-! ### over a dict's keys -/
theorem lock_stp {K : Kw} {H : Hp} {M : Hm} (S : Sim K H M) {d : Addr} {t : Bool} {ks : List (U × U)} (hm : M d = some (.dct false t ks)) :
    ∃ u, H d = some u ∧ Mut (some u) ∧ (∀ od, Stp H M (upd H d (.frz od u)) (um M d (.dct true t ks)) ∧ Sim K (upd H d (.frz od u)) (um M d (.dct true t ks)) ∧
      ((∃ kvs, u = .dK kvs ∧ RelK K H kvs ks ∧ t = false) ∨ ∃ kvs, u = .dT kvs ∧ RelT K H kvs ks ∧ t = true)) := by
  have q := S d _ hm
  cases t with
  | false =>
    obtain ⟨kvs, e, r⟩ := q
    refine ⟨_, e, trivial, fun od => ⟨Stp.mut hm, S.mut (m := .dct true false ks) hm rfl ⟨kvs, ⟨od, upd_same⟩, ?_⟩, .inl ⟨kvs, rfl, r, rfl⟩⟩⟩
    exact Paired.mapR r fun p q x => ⟨x.1, x.2.stp S (Stp.mut (m := .dct true false ks) hm)⟩
  | true =>
    obtain ⟨kvs, e, r⟩ := q
    refine ⟨_, e, trivial, fun od => ⟨Stp.mut hm, S.mut (m := .dct true true ks) hm rfl ⟨kvs, ⟨od, upd_same⟩, ?_⟩, .inr ⟨kvs, rfl, r, rfl⟩⟩⟩
    exact Paired.mapR r fun p q x => ⟨x.1, x.2.stp S (Stp.mut (m := .dct true true ks) hm)⟩
/-- what the walk yields -/
theorem it_keys {K : Kw} {H0 : Hp} {M0 : Hm} {d : Addr} {od : Obj} {kvs : List (Key × V)} {ks : List (U × U)} (e : H0 d = some (.frz od (.dK kvs))) (hm : M0 d = some (.dct true false ks)) (r : RelK K H0 kvs ks) : ItOk K H0 M0 (Itk d od kvs) (ks.map (·.1)) (fun M => M d = some (.dct true false ks)) := fun i H M st S hM => by
  have e2 : H d = some (.frz od (.dK kvs)) := by rw [(st.lock d _ _ hm).1, e]
  have rk := relK_keys r
  have hlen : kvs.length = (ks.map (·.1)).length := by rw [List.length_map]; exact RelK.len r
  refine ⟨fun u hu => ?_, fun hl => ⟨e2, by rw [hlen]; exact Nat.le_of_eq hl⟩⟩
  have hi : i < kvs.length := by rw [hlen]; exact (List.getElem?_eq_some_iff.mp hu).1
  refine ⟨⟨e2, hi⟩, fun x H' ⟨eH, k, v, hk, hx⟩ => ?_⟩
  subst eH hx
  refine ⟨Stp.refl _ M, S, ?_⟩
  obtain ⟨v2, h2, r2⟩ := rk.get hu
  rw [List.getElem?_map, hk] at h2
  cases h2
  cases k with
  | inl n =>
    have e3 : u = .int n := by cases r2; rfl
    rw [e3]
    exact .int n
  | inr n =>
    have e3 : u = .str n := by cases r2; rfl
    rw [e3]
    exact .str n
theorem relT_get {K : Kw} {H : Hp} : ∀ {kvs : List (List Key × V)} {ks : List (U × U)} {i : Nat} {u : U}, RelT K H kvs ks → (ks.map (·.1))[i]? = some u → ∃ k v, kvs[i]? = some (k, v) ∧ u = .tup (k.map keyU)
  | [], _, i, u, r, h => by unfold RelT at r; cases r; simp at h
  | (k, v) :: kvs, _, i, u, r, h => by
    unfold RelT at r
    cases r with
    | @cons p q ps qs a b => cases i with
      | zero =>
        simp at h
        exact ⟨k, v, rfl, by rw [← h]; exact a.1⟩
      | succ i =>
        obtain ⟨k2, v2, e1, e2⟩ := relT_get (K := K) (H := H) (kvs := kvs) (i := i) b (by simpa using h)
        exact ⟨k2, v2, by simpa using e1, e2⟩
theorem it_keysT {K : Kw} {H0 : Hp} {M0 : Hm} {d : Addr} {od : Obj} {kvs : List (List Key × V)} {ks : List (U × U)} (e : H0 d = some (.frz od (.dT kvs))) (hm : M0 d = some (.dct true true ks)) (r : RelT K H0 kvs ks) : ItOk K H0 M0 (Itkt d od kvs) (ks.map (·.1)) (fun M => M d = some (.dct true true ks)) := fun i H M st S hM => by
  have e2 : H d = some (.frz od (.dT kvs)) := by rw [(st.lock d _ _ hm).1, e]
  have hlen : kvs.length = (ks.map (·.1)).length := by rw [List.length_map]; exact RelT.len r
  refine ⟨fun u hu => ?_, fun hl => ⟨e2, by rw [hlen]; exact Nat.le_of_eq hl⟩⟩
  have hi : i < kvs.length := by rw [hlen]; exact (List.getElem?_eq_some_iff.mp hu).1
  refine ⟨⟨e2, hi⟩, fun x H' ⟨eH, k, v, q, hk, hx, ht⟩ => ?_⟩
  subst eH hx
  refine ⟨Stp.refl _ M, S, ?_⟩
  obtain ⟨k2, v2, h2, e3⟩ := relT_get r hu
  rw [hk] at h2
  cases h2
  rw [e3]
  exact .tup (.inl ht) (relL_keys k)
/-- the walk over a locked dict that stands in a slot -/
theorem keys_run {K : Kw} {σ : L2.St} {H : Hp} {d : Addr} {i : Nat} {od : Obj} {u : HO} {t : Bool} {ks : List (U × U)} {M : Hm} {R : It → Hp → Prop} (hs : σ[i]? = some (some (.ref d))) (S : Sim K H M) (he : H d = some (.frz od u)) (hm : M d = some (.dct true t ks))
    (hu : (∃ kvs, u = .dK kvs ∧ RelK K H kvs ks ∧ t = false) ∨ ∃ kvs, u = .dT kvs ∧ RelT K H kvs ks ∧ t = true) (k : ∀ J, ItOk K H M J (ks.map (·.1)) (fun M => M d = some (.dct true t ks)) → R J H) : L2.iKeys (tVar i) σ H R := by
  refine ⟨_, hs, d, od, rfl, ?_⟩
  rcases hu with ⟨kvs, rfl, r, rfl⟩ | ⟨kvs, rfl, r, rfl⟩
  · exact .inl ⟨kvs, he, k _ (it_keys he hm r)⟩
  · exact .inr ⟨kvs, he, k _ (it_keysT he hm r)⟩
theorem hu_stp {K : Kw} {H H' : Hp} {M M' : Hm} (S : Sim K H M) (st : Stp H M H' M') {u : HO} {t : Bool} {ks : List (U × U)} (hu : (∃ kvs, u = .dK kvs ∧ RelK K H kvs ks ∧ t = false) ∨ ∃ kvs, u = .dT kvs ∧ RelT K H kvs ks ∧ t = true) :
    (∃ kvs, u = .dK kvs ∧ RelK K H' kvs ks ∧ t = false) ∨ ∃ kvs, u = .dT kvs ∧ RelT K H' kvs ks ∧ t = true := by
  rcases hu with ⟨kvs, e, r, e2⟩ | ⟨kvs, e, r, e2⟩
  · exact .inl ⟨kvs, e, Paired.mapR r fun p q x => ⟨x.1, x.2.stp S st⟩, e2⟩
  · exact .inr ⟨kvs, e, Paired.mapR r fun p q x => ⟨x.1, x.2.stp S st⟩, e2⟩
/-- unlocked again -/
theorem unlock_stp {K : Kw} {H : Hp} {M : Hm} {H1 : Hp} {M1 : Hm} {H2 : Hp} {M2 : Hm} {d : Addr} {od : Obj} {u : HO} {t : Bool} {ks : List (U × U)} (S : Sim K H M) (hm : M d = some (.dct false t ks)) (he1 : H1 d = some (.frz od u)) (hm1 : M1 d = some (.dct true t ks)) (st : Stp H M H1 M1) (S1 : Sim K H1 M1)
    (st2 : Stp H1 M1 H2 M2) (S2 : Sim K H2 M2) (hm2 : M2 d = some (.dct true t ks)) (hu : (∃ kvs, u = .dK kvs ∧ RelK K H2 kvs ks ∧ t = false) ∨ ∃ kvs, u = .dT kvs ∧ RelT K H2 kvs ks ∧ t = true) :
    H2 d = some (.frz od u) ∧ Stp H M (upd H2 d u) (um M2 d (.dct false t ks)) ∧ Sim K (upd H2 d u) (um M2 d (.dct false t ks)) ∧ (∀ v x, Rel K H2 v x → Rel K (upd H2 d u) v x) ∧ (∀ v x, RelL K H2 v x → RelL K (upd H2 d u) v x) := by
  have e2 : H2 d = some (.frz od u) := by rw [(st2.lock d _ _ hm1).1, he1]
  have tp : ∀ {a : Addr} {vs : List V}, Tp K H2 a vs → Tp K (upd H2 d u) a vs := fun {a vs} h => by
    rcases h with h | h
    case inr => exact .inr h
    have ne : a ≠ d := fun e => by
      have h2 : H2 a = some (.tup vs) := h
      rw [e, e2] at h2
      cases h2
    exact .inl ((upd_ne ne).trans h)
  have noT : ∀ o vs, H2 d ≠ some (.frz o (.tup vs)) := fun o vs h => by
    rw [e2] at h
    rcases hu with ⟨kvs, rfl, _⟩ | ⟨kvs, rfl, _⟩ <;> cases h
  have td : ∀ {a : Addr} {vs : List V}, Td K H2 a vs → Td K (upd H2 d u) a vs := fun {a vs} h => by
    rcases h with ⟨o, h, dn⟩ | h
    · have ne : a ≠ d := fun e => noT o vs (by rw [← e]; exact h)
      exact .inl ⟨o, (upd_ne ne).trans h, dn⟩
    · exact .inr h
  have nol : ∀ o vs, H2 d ≠ some (.frz o (.lst vs)) := fun o vs h => by
    rw [e2] at h
    rcases hu with ⟨kvs, rfl, _⟩ | ⟨kvs, rfl, _⟩ <;> cases h
  have rl : ∀ {a : Addr} {vs : List V}, Rl K H2 a vs → Rl K (upd H2 d u) a vs := fun {a vs} h => by
    rcases h with ⟨o, h⟩ | h
    · have ne : a ≠ d := fun e => nol o vs (by rw [← e]; exact h)
      exact .inl ⟨o, (upd_ne ne).trans h⟩
    · exact .inr h
  have both : ∀ n : Nat, (∀ {v : V} {x : U}, sizeOf x ≤ n → Rel K H2 v x → Rel K (upd H2 d u) v x) ∧ (∀ {v : List V} {x : List U}, sizeOf x ≤ n → RelL K H2 v x → RelL K (upd H2 d u) v x) := by
    intro n
    induction n with
    | zero =>
      refine ⟨fun {v u} h r => ?_, fun {v u} h r => ?_⟩
      · cases u <;> simp at h
      · cases u <;> simp at h
    | succ n ih =>
      refine ⟨fun {v u} h r => ?_, fun {v u} h r => ?_⟩
      · cases r with
        | non => exact .non
        | bl b => exact .bl b
        | int i => exact .int i
        | str x => exact .str x
        | ref a => exact .ref a
        | tup t rr => exact .tup (tp t) (ih.2 (by simp at h; omega) rr)
        | rol t rr => exact .rol (rl t) (ih.2 (by simp at h; omega) rr)
        | dtp t rr => exact .dtp (td t) (ih.2 (by simp at h; omega) rr)
      · cases r with
        | nil => exact .nil
        | cons a b => exact .cons (ih.1 (by simp at h; omega) a) (ih.2 (by simp at h; omega) b)
  have f1 : ∀ v x, Rel K H2 v x → Rel K (upd H2 d u) v x := fun v x r => (both _).1 (Nat.le_refl _) r
  have f2 : ∀ v x, RelL K H2 v x → RelL K (upd H2 d u) v x := fun v x r => (both _).2 (Nat.le_refl _) r
  have z := st.trans S st2
  refine ⟨e2, ⟨fun a o h n => ?_, fun a t' ks' e => ?_⟩, fun a o ha => ?_, f1, f2⟩
  · have ne : a ≠ d := fun q => by rw [q, hm] at n; cases n
    exact ⟨by rw [upd_ne ne]; exact (z.keep a o h n).1, by rw [um_ne ne]; exact (z.keep a o h n).2⟩
  · have ne : a ≠ d := fun q => by rw [q, hm] at e; cases e
    exact ⟨by rw [upd_ne ne]; exact (z.lock a _ _ e).1, by rw [um_ne ne]; exact (z.lock a _ _ e).2⟩
  · by_cases hz : a = d
    · subst hz
      rw [um_same] at ha
      cases ha
      rcases hu with ⟨kvs, rfl, r, rfl⟩ | ⟨kvs, rfl, r, rfl⟩
      · exact ⟨kvs, upd_same, Paired.mapR r fun p q x => ⟨x.1, f1 _ _ x.2⟩⟩
      · exact ⟨kvs, upd_same, Paired.mapR r fun p q x => ⟨x.1, f1 _ _ x.2⟩⟩
    · rw [um_ne hz] at ha
      have q := S2 a o ha
      cases o with
      | lst us =>
        obtain ⟨vs, e1, r⟩ := q
        exact ⟨vs, by rw [upd_ne hz]; exact e1, f2 _ _ r⟩
      | dct z t ks =>
        cases t with
        | false => obtain ⟨kvs, e1, r⟩ := q; exact ⟨kvs, by rw [upd_ne hz]; exact e1, Paired.mapR r fun p q x => ⟨x.1, f1 _ _ x.2⟩⟩
        | true => obtain ⟨kvs, e1, r⟩ := q; exact ⟨kvs, by rw [upd_ne hz]; exact e1, Paired.mapR r fun p q x => ⟨x.1, f1 _ _ x.2⟩⟩
      | dcn ks => obtain ⟨xs, e1, r, r2⟩ := q; exact ⟨xs, by rw [upd_ne hz]; exact e1, Paired.mapR r fun p q x => ⟨⟨x.1.1, x.1.2.1, f1 _ _ x.1.2.2⟩, x.2.elim fun v y => ⟨v, y.1, f1 _ _ y.2⟩⟩, r2⟩
      | obj cn fs => obtain ⟨dx, vs, e1, r, r2⟩ := q; exact ⟨dx, vs, by rw [upd_ne hz]; exact e1, Paired.mapR r fun p q x => ⟨x.1, f1 _ _ x.2⟩, r2⟩
def keysI (i : Nat) : WI := fun σ M Q => ∃ j d t ks, E.var i = .var j ∧ σ[j]? = some (some (.ref d)) ∧ M d = some (.dct false t ks) ∧
      Q (ks.map (·.1)) (fun M' => M' d = some (.dct true t ks)) (fun P M' => M' d = some (.dct true t ks) ∧ P (um M' d (.dct false t ks))) (um M d (.dct true t ks))
theorem ev_compK {K : Kw} {i : Nat} {tgr : TG} {tg : Tg} {tt : TT} {fc : WT} {te : TE} {fe : WE} {vs : List Nat} (qg : EvG K tgr tg) (qc : EvT K tt fc) (qe : EvE K te fe) (hvs : vs = tg.slots) :
    EvE K (tLockE (tLc (L2.iKeys (tVar i)) tgr tt te vs)) (compW (keysI i) tg fc fe) := fun σ H σu M Qu Q rs S hf c => by
  obtain ⟨j, d, t, ks, ej, hs, hm, hq⟩ := hf
  cases ej
  obtain ⟨v, hv, rv⟩ := rs.2 i _ hs
  obtain rfl : v = .ref d := by cases rv; rfl
  obtain ⟨u, hd, mu, lk⟩ := lock_stp S hm
  refine ⟨d, u, hd, mu, fun od => ?_⟩
  obtain ⟨st, S1, hu⟩ := lk od
  have hu1 := hu_stp S st hu
  refine keys_run hv S1 upd_same um_same hu1 fun J ok => ?_
  refine comp_core (Q := fun v H' => H' d = some (.frz od u) ∧ Q v (upd H' d u)) qg qc qe hvs (rs.stp S st) S1 ok um_same hq fun D acc accV H2 M2 hD st2 S2 hMD2 hD2 r hg hfin => ?_
  obtain ⟨e2, st3, S3, f1, f2⟩ := unlock_stp S hm upd_same um_same st S1 st2 S2 hg (hu_stp S1 st2 hu1)
  refine ⟨e2, ?_⟩
  have ne : D ≠ d := fun z => by rw [z, upd_same] at hD; cases hD
  have hD3 : (upd H2 d u) D = some (.lst accV) := by rw [upd_ne ne]; exact hD2
  have hHD : H D = none := (upd_ne (H := H) (o := HO.frz od u) ne).symm.trans hD
  obtain ⟨a, b⟩ := join_new S (Stp.refl H M) S hHD st3 S3 hD3 (f2 _ _ r)
  refine c (.ref D) _ (.ref D) _ a b (.ref D) (hfin.2 D ?_)
  rw [um_ne ne]
  exact hMD2
end Pl

set_option maxHeartbeats 4000000
/-! canonical readings; comprehensions as expressions; statements -/
namespace Pl
open PySem L2
def cE (K : Kw) (f : WE) : TE := fun σ H Q => ∃ (σu : SU) (M : Hm) (Qu : QU), RelS K H σ σu ∧ Sim K H M ∧ f σu M Qu ∧ Cont K H M Qu Q
def cT (K : Kw) (f : WT) : TT := fun σ H Q => ∃ (σu : SU) (M : Hm) (Qu : Bool → Hm → Prop), RelS K H σ σu ∧ Sim K H M ∧ f σu M Qu ∧ ContB K H M Qu Q
def cG (K : Kw) (tg : Tg) : TG := fun x σ H Q => ∃ (u : U) (σu : SU) (Qu : SU → Prop), RelS K H σ σu ∧ Rel K H x u ∧ tgW tg u σu Qu ∧
  ∀ σ' σu', RelS K H σ' σu' → Qu σu' → (∀ vs, (∀ i ∈ tg.slots, i ∈ vs) → L2.wipe σ' vs = L2.wipe σ vs) → Q σ' H
theorem ev_cE {K : Kw} {f : WE} : EvE K (cE K f) f := fun σ H σu M Qu Q rs S hf c => ⟨σu, M, Qu, rs, S, hf, c⟩
theorem ev_cT {K : Kw} {f : WT} : EvT K (cT K f) f := fun σ H σu M Qu Q rs S hf c => ⟨σu, M, Qu, rs, S, hf, c⟩
theorem ev_cG {K : Kw} {tg : Tg} : EvG K (cG K tg) tg := fun x u σ H σu M Qu Q rs r h c => ⟨u, σu, Qu, rs, r, h, c⟩
theorem SE1.pe {X : Cx} {f : WE} {x : Expr} (h : SE1 X f x) : PE X x (cE (kwX X) f) := by
  obtain ⟨t, p, q⟩ := h
  exact ⟨fun pins s σ H Q I ⟨σu, M, Qu, rs, S, hf, c⟩ => p.run pins s σ H Q I (q σ H σu M Qu Q rs S hf c)⟩
theorem ST.pt {X : Cx} {f : WT} {x : Expr} (h : ST X f x) : PT X x (cT (kwX X) f) := by
  obtain ⟨t, p, q⟩ := h
  exact ⟨fun pins s σ H Q I ⟨σu, M, Qu, rs, S, hf, c⟩ => p.run pins s σ H Q I (q σ H σu M Qu Q rs S hf c)⟩
theorem SG.pg {X : Cx} {x : Expr} {tg : Tg} (h : SG X x tg) : PG X x (cG (kwX X) tg) := by
  obtain ⟨t, p, q⟩ := h
  exact ⟨fun pins s σ H v u Q I r ⟨a, σu, Qu, rs, ra, hf, c⟩ => p.run pins s σ H v u Q I r (q v a σ H σu (fun _ => none) Qu Q rs ra hf c)⟩
section
variable {X : Cx}
/-- the block of a comprehension -/
abbrev Blk (X : Cx) (scope : Scope) (s : Shared) (H : Hp) (C : Addr) (cl : List (Str × Addr)) (fp : List Addr) : Cx := X.blk s H scope (compEnvC scope cl C X.env) fp
def notSet : Expr → Bool
  | .Set _ _ _ => false
  | _ => true
theorem no_set' {iter : Expr} {env : Env} (h : notSet iter = true) : ∀ x, foldedSetIterable iter env x = pure x := fun x => by
  cases iter <;> first | (cases h; done) | rfl
structure CompOk (X : Cx) (tgE elt : Expr) (ifs : List Expr) (scope : Scope) (own : List (Str × Nat)) (tg : Tg) (fc : WT) (fe : WE) : Prop where
  calm : X.calm = true
  nd : X.N.Nodup
  blk : BlkOk X.N X.env.scope scope own
  own : own.map (·.2) = tg.slots
  g : ∀ s H C cl fp, SG (Blk X scope s H C cl fp) tgE tg
  c : (ifs = [] ∧ fc = fun _ M Q => Q true M) ∨ ∃ i, ifs = [i] ∧ ∀ s H C cl fp, ST (Blk X scope s H C cl fp) fc i
  e : ∀ s H C cl fp, SE1 (Blk X scope s H C cl fp) fe elt
theorem CompOk.run {tgE elt : Expr} {ifs : List Expr} {scope : Scope} {own : List (Str × Nat)} {tg : Tg} {fc : WT} {fe : WE} (h : CompOk X tgE elt ifs scope own tg fc fe) :
    ∃ tt, (∀ s H C cl fp, PG (Blk X scope s H C cl fp) tgE (cG (kwX X) tg)) ∧ (∀ s H C cl fp, PTs (Blk X scope s H C cl fp) ifs tt) ∧ (∀ s H C cl fp, PE (Blk X scope s H C cl fp) elt (cE (kwX X) fe)) ∧ EvT (kwX X) tt fc := by
  rcases h.c with ⟨rfl, rfl⟩ | ⟨i, rfl, hi⟩
  · exact ⟨tYes, fun s H C cl fp => (h.g s H C cl fp).pg, fun _ _ _ _ _ => pts_nil, fun s H C cl fp => (h.e s H C cl fp).pe, fun σ H σu M Qu Q rs S hf c => c _ _ _ (Stp.refl H M) S hf⟩
  · exact ⟨cT (kwX X) fc, fun s H C cl fp => (h.g s H C cl fp).pg, fun s H C cl fp => pts_one (hi s H C cl fp).pt, fun s H C cl fp => (h.e s H C cl fp).pe, ev_cT⟩
theorem se_comp {tgE iter elt : Expr} {ifs : List Expr} {scope : Scope} {own : List (Str × Nat)} {tg : Tg} {fi : WI} {fc : WT} {fe : WE} {pos : Pos} (hi : SI X tgE iter fi) (h : CompOk X tgE elt ifs scope own tg fc fe) (hs : notSet iter = true) :
    SE1 X (compW fi tg fc fe) (.ListComp elt [⟨tgE, iter, ifs, 0⟩] scope pos) := by
  obtain ⟨ti, p, q⟩ := hi
  obtain ⟨tt, h1, h2, h3, h4⟩ := h.run
  exact ⟨_, pe_lc h.calm h.nd p h.blk h1 h2 h3 (no_set' hs), ev_comp q ev_cG h4 ev_cE h.own⟩
theorem se_compK {tgE iter elt : Expr} {i : Nat} {ifs : List Expr} {scope : Scope} {own : List (Str × Nat)} {tg : Tg} {fc : WT} {fe : WE} {pos : Pos} (hi : PE X iter (tVar i)) (h : CompOk X tgE elt ifs scope own tg fc fe) (hs : notSet iter = true) :
    SE1 X (compW (keysI i) tg fc fe) (.ListComp elt [⟨tgE, iter, ifs, 0⟩] scope pos) := by
  obtain ⟨tt, h1, h2, h3, h4⟩ := h.run
  exact ⟨_, pe_lock (pe_lc h.calm h.nd (pi_keys hi) h.blk h1 h2 h3 (no_set' hs)), ev_compK ev_cG h4 ev_cE h.own⟩
end

/-! ### statements -/
structure ContD (K : Kw) (H : Hp) (M : Hm) (Du : EndsU) (D : Ends) : Prop where
  nx : ContS K H M Du.nx D.nx
  rt : Cont K H M Du.rt D.rt
  bk : ContS K H M Du.bk D.bk
  ct : ContS K H M Du.ct D.ct
theorem ContS.tr {K : Kw} {H H1 : Hp} {M M1 : Hm} {Qu : SU → Hm → Prop} {Q : L2.St → Hp → Prop} (S0 : Sim K H M) (t : Stp H M H1 M1) (c : ContS K H M Qu Q) : ContS K H1 M1 Qu Q := fun σ' H' σu' M' t' rs S q => c σ' H' σu' M' (t.trans S0 t') rs S q
theorem ContD.tr {K : Kw} {H H1 : Hp} {M M1 : Hm} {Du : EndsU} {D : Ends} (S0 : Sim K H M) (t : Stp H M H1 M1) (c : ContD K H M Du D) : ContD K H1 M1 Du D := ⟨c.nx.tr S0 t, c.rt.tr S0 t, c.bk.tr S0 t, c.ct.tr S0 t⟩
abbrev WSt := EndsU → SU → Hm → Prop
def EvS (K : Kw) (t : TS) (f : WSt) : Prop := ∀ (D : Ends) (Du : EndsU) (σ : L2.St) (H : Hp) (σu : SU) (M : Hm), RelS K H σ σu → Sim K H M → f Du σu M → ContD K H M Du D → t D σ H
def SS (X : Cx) (f : WSt) (st : Stmt) : Prop := ∃ t, PS X st t ∧ EvS (kwX X) t f
def SSs (X : Cx) (f : WSt) (sts : List Stmt) : Prop := ∃ t, PSs X sts t ∧ EvS (kwX X) t f
section
variable {X : Cx}
theorem sss_nil : SSs X (fun D σ M => D.nx σ M) [] := ⟨_, pss_nil, fun D Du σ H σu M rs S h c => c.nx _ _ _ _ (Stp.refl H M) rs S h⟩
theorem sss_cons {st : Stmt} {sts : List Stmt} {f g : WSt} (h1 : SS X f st) (h2 : SSs X g sts) : SSs X (fun D σ M => f { D with nx := g D } σ M) (st :: sts) := by
  obtain ⟨t1, p1, q1⟩ := h1
  obtain ⟨t2, p2, q2⟩ := h2
  refine ⟨_, pss_cons p1 p2, fun D Du σ H σu M rs S h c => ?_⟩
  exact q1 _ { Du with nx := g Du } σ H σu M rs S h ⟨fun σ' H' σu' M' st rs' S' hq => q2 D Du σ' H' σu' M' rs' S' hq (c.tr S st), c.rt, c.bk, c.ct⟩
theorem ss_pass {pos : Pos} : SS X (fun D σ M => D.nx σ M) (.Pass pos) := ⟨_, ps_pass, fun D Du σ H σu M rs S h c => c.nx _ _ _ _ (Stp.refl H M) rs S h⟩
theorem ss_break {pos : Pos} : SS X (fun D σ M => D.bk σ M) (.Break pos) := ⟨_, ps_break, fun D Du σ H σu M rs S h c => c.bk _ _ _ _ (Stp.refl H M) rs S h⟩
theorem ss_cont {pos : Pos} : SS X (fun D σ M => D.ct σ M) (.Continue pos) := ⟨_, ps_continue, fun D Du σ H σu M rs S h c => c.ct _ _ _ _ (Stp.refl H M) rs S h⟩
theorem ss_nvr {st : Stmt} : SS X (fun _ _ _ => False) st := ⟨_, ps_never, fun D Du σ H σu M rs S h c => h.elim⟩
theorem sss_nvr {st : List Stmt} : SSs X (fun _ _ _ => False) st := ⟨_, pss_never, fun D Du σ H σu M rs S h c => h.elim⟩
theorem ss_ret {e : Expr} {f : WE} {pos : Pos} (h : SE1 X f e) : SS X (fun D σ M => f σ M D.rt) (.Return (some e) pos) := by
  obtain ⟨t, p, q⟩ := h
  exact ⟨_, ps_ret p, fun D Du σ H σu M rs S h c => q σ H σu M _ _ rs S h c.rt⟩
theorem ss_retN {pos : Pos} : SS X (fun D _ M => D.rt .non M) (.Return none pos) := ⟨_, ps_retN, fun D Du σ H σu M rs S h c => c.rt.at_ S .non h⟩
def isComp : Expr → Bool
  | .ListComp .. => true
  | .SetComp .. => true
  | .DictComp .. => true
  | _ => false
theorem no_swap {e : Expr} {t : Option Expr} {l : Nat} {env : Env} (h : isComp e = false) : swapsWith e t l env = pure false := by
  cases e <;> first | (cases h; done) | rfl
theorem ss_expr {e : Expr} {f : WE} {pos : Pos} (hc : isComp e = false) (h : SE1 X f e) : SS X (fun D σ M => f σ M fun _ M1 => D.nx σ M1) (.Expr e pos) := by
  obtain ⟨t, p, q⟩ := h
  refine ⟨_, ps_expr p (no_swap hc), fun D Du σ H σu M rs S h c => ?_⟩
  exact q σ H σu M _ _ rs S h fun v H' u M' st S' r hq => c.nx _ _ _ _ st (rs.stp S st) S' hq
theorem ev_asg {K : Kw} {i : Nat} {t : TE} {f : WE} (q : EvE K t f) : EvS K (tAsg t (gName i)) (fun D σ M => f σ M fun x M1 => D.nx (σ.set i (some x)) M1) := fun D Du σ H σu M rs S h c => by
  exact q σ H σu M _ _ rs S h fun v H' u M' st S' r hq => c.nx _ _ _ _ st ((rs.stp S st).set r i) S' hq
theorem ss_asg {i : Nat} {x : Str} {e : Expr} {f : WE} {pos pos' : Pos} (hN : X.N.Nodup) (hi : X.N[i]? = some x) (hx : Loc X.env.scope x) (hs : swapsWith e (some (.Name x pos')) pos.line X.env = pure false) (hf : X.fn x = true) (h : SE1 X f e) :
    SS X (fun D σ M => f σ M fun x M1 => D.nx (σ.set i (some x)) M1) (.Assign [.Name x pos'] e pos) := by
  obtain ⟨t, p, q⟩ := h
  exact ⟨_, ps_set hN hi hx p hs (.inl hf), ev_asg q⟩
/-- a comprehension whose value goes to a name on its line -/
theorem ss_asgC {i : Nat} {y : Str} {tgE iter elt : Expr} {ifs : List Expr} {scope : Scope} {own : List (Str × Nat)} {tg : Tg} {fi : WI} {fc : WT} {fe : WE} {pos pos' spos : Pos} (hy : X.N[i]? = some y) (hyl : X.env.scope.names.lookup y = some .local)
    (hsw : swapsWith (.ListComp elt [⟨tgE, iter, ifs, 0⟩] scope pos) (some (.Name y pos')) spos.line X.env = pure true) (hi : SI X tgE iter fi) (h : CompOk X tgE elt ifs scope own tg fc fe) (hs : notSet iter = true) :
    SS X (fun D σ M => compW fi tg fc fe σ M fun x M1 => D.nx (σ.set i (some x)) M1) (.Assign [.Name y pos'] (.ListComp elt [⟨tgE, iter, ifs, 0⟩] scope pos) spos) := by
  obtain ⟨ti, p, q⟩ := hi
  obtain ⟨tt, h1, h2, h3, h4⟩ := h.run
  exact ⟨_, ps_setLc h.calm h.nd hy hyl hsw p h.blk h1 h2 h3 (no_set' hs), ev_asg (ev_comp q ev_cG h4 ev_cE h.own)⟩
theorem ev_lockS {K : Kw} {i j : Nat} {tgr : TG} {tg : Tg} {tt : TT} {fc : WT} {te : TE} {fe : WE} {vs : List Nat} (qg : EvG K tgr tg) (qc : EvT K tt fc) (qe : EvE K te fe) (hvs : vs = tg.slots) :
    EvS K (tLock (tAsg (tLc (L2.iKeys (tVar i)) tgr tt te vs) (gName j))) (fun D σ M => compW (keysI i) tg fc fe σ M fun x M1 => D.nx (σ.set j (some x)) M1) := fun D Du σ H σu M rs S hf c => by
  have q := ev_compK (K := K) (i := i) qg qc qe hvs σ H σu M _ (fun v H' => D.nx (σ.set j (some v)) H') rs S hf fun v H' u M' st S' r hq => c.nx _ _ _ _ st ((rs.stp S st).set r j) S' hq
  exact q
theorem ss_asgCK {i j : Nat} {y : Str} {tgE iter elt : Expr} {ifs : List Expr} {scope : Scope} {own : List (Str × Nat)} {tg : Tg} {fc : WT} {fe : WE} {pos pos' spos : Pos} (hy : X.N[j]? = some y) (hyl : X.env.scope.names.lookup y = some .local)
    (hsw : swapsWith (.ListComp elt [⟨tgE, iter, ifs, 0⟩] scope pos) (some (.Name y pos')) spos.line X.env = pure true) (hi : PE X iter (tVar i)) (h : CompOk X tgE elt ifs scope own tg fc fe) (hs : notSet iter = true) :
    SS X (fun D σ M => compW (keysI i) tg fc fe σ M fun x M1 => D.nx (σ.set j (some x)) M1) (.Assign [.Name y pos'] (.ListComp elt [⟨tgE, iter, ifs, 0⟩] scope pos) spos) := by
  obtain ⟨tt, h1, h2, h3, h4⟩ := h.run
  exact ⟨_, ps_lock (ps_setLc h.calm h.nd hy hyl hsw (pi_keys hi) h.blk h1 h2 h3 (no_set' hs)), ev_lockS ev_cG h4 ev_cE h.own⟩
theorem swapSole {e t : Expr} {l : Nat} {env : Env} (h : isComp e = false ∨ (match t with | .Name .. => false | _ => true) = true) : swapsWithSole [t] e l env = pure false := by
  show swapsWith e (some t) l env = pure false
  rcases h with h | h
  · exact no_swap h
  · cases e <;> first | rfl | (cases t <;> first | (cases h; done) | rfl)
theorem no_stores {e t : Expr} {env : Env} (h : (match e with | .Tuple .. => false | _ => true) = true ∨ (match t with | .Tuple .. => false | .List .. => false | _ => true) = true) : swappedStores [t] e env = pure none := by
  rcases h with h | h
  · cases e <;> first | (cases h; done) | (cases t <;> rfl)
  · cases t <;> first | (cases h; done) | (cases e <;> rfl)
def notTup : Expr → Bool
  | .Tuple .. => false
  | _ => true
theorem ss_asgT {is : List Nat} {es : List Expr} {ok : Str → Bool} {k : Nat} {e : Expr} {f : WE} {tpos pos : Pos} (hc : X.calm = true) (hN : X.N.Nodup) (hok : ∀ x, ok x = true → Loc X.env.scope x ∧ (X.fn x = true ∨ X.env.scope.names.lookup x = some .local)) (hn : namesB X.N ok is es = true)
    (ht : notTup e = true) (h : SE1 X f e) : SS X (fun D σ M => f σ M fun x M1 => ∃ l σ', x = .tup l ∧ setAll is l σ = some σ' ∧ D.nx σ' M1) (.Assign [.Tuple es k tpos] e pos) := by
  obtain ⟨t, p, q⟩ := h
  obtain ⟨tg, pg, qg⟩ := sg_many (k := k) (pos := tpos) hc hN hok hn
  refine ⟨_, ps_asg p pg (swapSole (.inr rfl)) (no_stores (.inl (by cases e <;> first | (cases ht; done) | rfl))) rfl, fun D Du σ H σu M rs S hf c => ?_⟩
  refine q σ H σu M _ _ rs S hf fun v H' u M' st S' r hq => ?_
  exact qg v u σ H' σu M' (fun σ' => Du.nx σ' M') _ (rs.stp S st) r hq fun σ1 σu1 rs1 hq1 _ => c.nx _ _ _ _ st rs1 S' hq1
theorem ss_asgU {is : List Nat} {es : List Expr} {ok : Str → Bool} {k : Nat} {e : Expr} {f : WE} {tpos pos : Pos} (hc : X.calm = true) (hN : X.N.Nodup) (hok : ∀ x, ok x = true → Loc X.env.scope x ∧ (X.fn x = true ∨ X.env.scope.names.lookup x = some .local)) (hn : namesB X.N ok is es = true)
    (ht : notTup e = true) (h : SE1 X f e) : SS X (fun D σ M => f σ M fun x M1 => ∃ p l σ', x = .ref p ∧ M1 p = some (.lst l) ∧ setAll is l σ = some σ' ∧ D.nx σ' M1) (.Assign [.Tuple es k tpos] e pos) := by
  obtain ⟨t, p, q⟩ := h
  obtain ⟨tt, pt, qt⟩ := sgs_names hN hok hn
  obtain ⟨l1, l2⟩ := names_each (env := X.env) hn
  refine ⟨_, ps_asg p (pg_unl hc pt l1 l2) (swapSole (.inr rfl)) (no_stores (.inl (by cases e <;> first | (cases ht; done) | rfl))) rfl, fun D Du σ H σu M rs S hf c => ?_⟩
  refine q σ H σu M _ _ rs S hf fun v H' u M' st S' r hq => ?_
  obtain ⟨p', l, σ', rfl, hm, hs, hq⟩ := hq
  obtain ⟨vs, e, rl⟩ := S' _ _ hm
  cases r
  have hlen : l.length = is.length := setAll_len is l σu σ' hs
  refine ⟨_, vs, rfl, .inl (.inl e), by rw [rl.length, hlen], ?_⟩
  exact qt _ _ _ H' _ _ _ (rs.stp S st) rl hs fun σ1 rs1 _ => c.nx _ _ _ _ st rs1 S' hq
theorem ss_setIx {o i e : Expr} {f g h : WE} {tpos pos : Pos} (hu : X.A.units + 66 < cLine) (h1 : SE1 X f e) (h2 : SE1 X g o) (h3 : SE1 X h i) (hs : notSlice i = true) :
    SS X (fun D σ M => f σ M fun v M1 => g σ M1 fun x M2 => h σ M2 fun y M3 => setW x y v M3 (D.nx σ)) (.Assign [.Subscript o i tpos] e pos) := by
  obtain ⟨t1, p1, q1⟩ := h1
  obtain ⟨t2, p2, q2⟩ := h2
  obtain ⟨t3, p3, q3⟩ := h3
  refine ⟨_, ps_asg p1 (pg_sub p2 p3 (set_S hu) (fun v => by cases i <;> first | (cases hs; done) | rfl)) (swapSole (.inr rfl)) (no_stores (.inr rfl)) rfl, fun D Du σ H σu M rs S hf c => ?_⟩
  refine q1 σ H σu M _ _ rs S hf fun v H1 u M1 st S1 r hq => ?_
  refine q2 σ H1 σu M1 _ _ (rs.stp S st) S1 hq fun v2 H2 u2 M2 st2 S2 r2 hq2 => ?_
  have s12 := st.trans S st2
  refine q3 σ H2 σu M2 _ _ (rs.stp S s12) S2 hq2 fun v3 H3 u3 M3 st3 S3 r3 hq3 => ?_
  have s13 := s12.trans S st3
  exact ⟨u2, u3, u, M3, _, S3, r2.stp S2 st3, r3, (r.stp S1 st2).stp S2 st3, hq3, fun H' M' st' S' hq' => c.nx _ _ _ _ (s13.trans S st') (rs.stp S (s13.trans S st')) S' hq'⟩
theorem RelK.dropk {K : Kw} {H : Hp} {kvs : List (Key × V)} {ks : List (U × U)} (h : RelK K H kvs ks) (key : Key) : RelK K H (dropK kvs key) (ddrop ks (keyU key)) := by
  induction h with
  | nil => exact .nil
  | @cons p q kvs ks a _ ih =>
    unfold dropK ddrop at ih ⊢
    rw [List.filter_cons, List.filter_cons]
    by_cases e : p.1 = key
    · rw [if_neg (by simpa using e), if_neg (by rw [a.1, e]; simp)]
      exact ih
    · rw [if_pos (by simpa using e), if_pos (by
        rw [a.1, Bool.not_eq_true', decide_eq_false_iff_not]
        exact fun h => e (keyU_inj h))]
      exact .cons a ih
theorem ss_delIx {o i : Expr} {g h : WE} {tpos pos : Pos} (h2 : SE1 X g o) (h3 : SE1 X h i) :
    SS X (fun D σ M => g σ M fun x M1 => h σ M1 fun y M2 => ∃ p ks, x = .ref p ∧ M2 p = some (.dct false false ks) ∧ isKey y = true ∧ (dfind ks y).isSome = true ∧ D.nx σ (um M2 p (.dct false false (ddrop ks y)))) (.Delete [.Subscript o i tpos] pos) := by
  obtain ⟨t2, p2, q2⟩ := h2
  obtain ⟨t3, p3, q3⟩ := h3
  refine ⟨_, ps_ddel p2 p3, fun D Du σ H σu M rs S hf c => ?_⟩
  refine q2 σ H σu M _ _ rs S hf fun v2 H2 u2 M2 st2 S2 r2 hq2 => ?_
  refine q3 σ H2 σu M2 _ _ (rs.stp S st2) S2 hq2 fun v3 H3 u3 M3 st3 S3 r3 hq3 => ?_
  obtain ⟨p, ks, rfl, hm, hk, hd, hq3⟩ := hq3
  have s13 := st2.trans S st3
  obtain ⟨kvs, e, rk⟩ := S3 _ _ hm
  have e : H3 p = some (.dK kvs) := e
  obtain ⟨key, rfl, rfl⟩ := isKey_of hk r3
  cases r2
  have s4 : Stp H3 M3 (upd H3 p (.dK (dropK kvs key))) (um M3 p (.dct false false (ddrop ks (keyU key)))) := Stp.mut hm
  refine ⟨p, kvs, key, rfl, e, rfl, ?_, ?_⟩
  · rcases rk.find key with ⟨g1, g2⟩ | ⟨w, u, g1, g2, _⟩
    · rw [g2] at hd; cases hd
    · rw [g1]; rfl
  · refine c.nx _ _ _ _ (s13.trans S s4) (rs.stp S (s13.trans S s4)) (S3.mut (m := .dct false false (ddrop ks (keyU key))) hm rfl ⟨_, upd_same, RelK.dropk (Paired.mapR rk fun p q x => ⟨x.1, x.2.stp S3 s4⟩) key⟩) hq3
theorem ss_setF {cn f : Str} {o e : Expr} {g h : WE} {tpos pos : Pos} (cl : Cls (kwX X) (cad (kwX X) cn)) (na : NoAttr (kwX X) (cad (kwX X) cn) f) (h1 : SE1 X g e) (h2 : SE1 X h o) :
    SS X (fun D σ M => g σ M fun v M1 => h σ M1 fun x M2 => ∃ p fs, x = .ref p ∧ M2 p = some (.obj cn fs) ∧ fs.length < 1000 ∧ D.nx σ (um M2 p (.obj cn (fput f v fs)))) (.Assign [.Attribute o f tpos] e pos) := by
  obtain ⟨t1, p1, q1⟩ := h1
  obtain ⟨t2, p2, q2⟩ := h2
  refine ⟨_, ps_fld p2 p1 (show swapsWithSole [Expr.Attribute o f tpos] e pos.line X.env = pure false from swapSole (.inr rfl)), fun D Du σ H σu M rs S hf c => ?_⟩
  refine q1 σ H σu M _ _ rs S hf fun v H1 u M1 st S1 r hq => ?_
  refine q2 σ H1 σu M1 _ _ (rs.stp S st) S1 hq fun v2 H2 u2 M2 st2 S2 r2 hq2 => ?_
  obtain ⟨p, fs, rfl, hm, hl, hq2⟩ := hq2
  obtain ⟨dx, vs, e1, rf, _, nas⟩ := S2 _ _ hm
  cases r2
  have s12 := st.trans S st2
  have s3 : Stp H2 M2 (upd H2 p (.ins (cad (kwX X) cn) dx (putF f v vs))) (um M2 p (.obj cn (fput f u fs))) := Stp.mut hm
  refine ⟨p, cad (kwX X) cn, dx, vs, rfl, e1, cl, na, by rw [rf.len]; exact hl, ?_⟩
  refine c.nx _ _ _ _ (s12.trans S s3) (rs.stp S (s12.trans S s3)) (S2.mut (m := .obj cn (fput f u fs)) hm rfl ⟨dx, _, upd_same, ?_, cl, mem_putF (P := fun z => NoAttr (kwX X) (cad (kwX X) cn) z) na nas⟩) hq2
  exact RelF.put ((r.stp S1 st2).stp S2 s3) (Paired.mapR rf fun p q x => ⟨x.1, x.2.stp S2 s3⟩)
def iopOf : Bop → Option Operator
  | .add => some .Add
  | .sub => some .Sub
  | _ => none
theorem ip_S {op : Bop} {o : Operator} (h : iopOf op = some o) : PIp X o (fun x y H Q => ∃ a b, x = .int a ∧ y = .int b ∧ Q (.int (if op = .add then a + b else a - b)) H) := by
  cases op <;> first | (cases h; done) | skip
  · cases h
    exact ip_add
  · cases h
    exact ip_sub
theorem bin_int {op : Bop} {o : Operator} (h : iopOf op = some o) {a b : Int} {M : Hm} {Q : QU} (q : binW op (.int a) (.int b) M Q) : Q (.int (if op = .add then a + b else a - b)) M := by
  cases op <;> first | (cases h; done) | exact q
theorem ss_augV {i : Nat} {x : Str} {e : Expr} {f : WE} {op : Bop} {o : Operator} {pos pos' : Pos} (ho : iopOf op = some o) (hN : X.N.Nodup) (hi : X.N[i]? = some x) (hx : Loc X.env.scope x) (hf : X.fn x = true) (h : SE1 X f e) :
    SS X (fun D σ M => ∃ x, σ[i]? = some (some x) ∧ f σ M fun y M1 => ∃ a b, x = .int a ∧ y = .int b ∧ binW op x y M1 fun z M2 => D.nx (σ.set i (some z)) M2) (.AugAssign (.Name x pos') o e pos) := by
  obtain ⟨t, p, q⟩ := h
  refine ⟨_, ps_aug hN hi hx p (ip_S ho) (.inl hf), fun D Du σ H σu M rs S hf c => ?_⟩
  obtain ⟨u, hu, hf⟩ := hf
  obtain ⟨v, hv, rv⟩ := rs.2 i u hu
  refine ⟨v, hv, q σ H σu M _ _ rs S hf fun v2 H' u2 M' st S' r hq => ?_⟩
  obtain ⟨a, b, rfl, rfl, hq⟩ := hq
  have rv := rv.stp S st
  cases rv
  cases r
  exact ⟨a, b, rfl, rfl, c.nx _ _ _ _ st ((rs.stp S st).set (.int _) i) S' (bin_int ho hq)⟩
/-- o[i] by values -/
theorem get_S (hu : X.A.units + 1 < cLine) : PGet X (R2s (kwX X) getW) := by
  intro pins s σ H o i ov iv Q I ro ri h
  obtain ⟨a, b, M, Qu, S, ra, rb, hf, c⟩ := h
  unfold getW at hf
  have hn := line63
  split at hf
  · rcases hf with ⟨us, j, w, h1, rfl, e, q⟩ | ⟨z, t, ks, w, h1, h2, e, q⟩
    · cases rb
      cases ra
      obtain ⟨vs, e2, r⟩ := S _ _ h1
      obtain ⟨v1, e1, r1⟩ := ix_pure r e
      obtain rfl : ov = Value.ref _ := ro
      obtain ⟨t', rfl⟩ := ri
      obtain ⟨its, r', pl, hz⟩ := I.list (.inl (.inl e2))
      obtain ⟨k, h1, h2, h3, h4, h5⟩ := atI_get e1
      obtain ⟨w', ew, rw'⟩ := r'.get h2
      have hl := r'.length
      have fin : EP X pins σ Q w' s := ⟨v1, H, I, rw', c.at_ S r1 q⟩
      by_cases h0 : 0 ≤ j
      · have hj : j.toNat = k := by
          rw [PySem.seqIndex_of h0 h5] at h1
          exact Option.some.inj h1
        exact PySem.wpAny_getItem_list (Q := EP X pins σ Q) pl.isList h0 (by omega) (by rw [hj]; simpa using ew) fin
      · have hj : (j + (its.toArray.size : Int)).toNat = k := by
          rw [PySem.seqIndex_neg (by omega) h4] at h1
          rw [List.size_toArray, ← hl]
          exact Option.some.inj h1
        exact PySem.wpAny_getItem_list_neg (Q := EP X pins σ Q) pl.isList (by omega) (by rw [List.size_toArray] <;> omega) (by omega) (by rw [hj]; simpa using ew) fin
    · obtain ⟨o', g, q2⟩ := dget_of S h1 h2 rb
      cases ra
      obtain rfl : ov = Value.ref _ := ro
      rcases q2 with ⟨_, e2⟩ | ⟨v1, u1, e1, e2, r1⟩
      · rw [e] at e2; cases e2
      · rw [e] at e2
        cases e2
        subst e1
        exact d_getItem hu I g ri fun w' s' I' rw' => ⟨_, H, I', rw', c.at_ S r1 q⟩
  · exact hf.elim
theorem ss_augIx {o i e : Expr} {f g h : WE} {op : Bop} {oo : Operator} {tpos pos : Pos} (ho : iopOf op = some oo) (hu : X.A.units + 66 < cLine) (h1 : SE1 X f o) (h2 : SE1 X g i) (h3 : SE1 X h e) (hs : notSlice i = true) :
    SS X (fun D σ M => f σ M fun x M1 => g σ M1 fun y M2 => getW x y M2 fun v M3 => h σ M3 fun z M4 => ∃ a b, v = .int a ∧ z = .int b ∧ binW op v z M4 fun r M5 => setW x y r M5 (D.nx σ)) (.AugAssign (.Subscript o i tpos) oo e pos) := by
  obtain ⟨t1, p1, q1⟩ := h1
  obtain ⟨t2, p2, q2⟩ := h2
  obtain ⟨t3, p3, q3⟩ := h3
  refine ⟨_, ps_augS p1 p2 (get_S (by omega)) p3 (ip_S ho) (set_S hu) (fun ov iv new => by cases i <;> first | (cases hs; done) | rfl), fun D Du σ H σu M rs S hf c => ?_⟩
  refine q1 σ H σu M _ _ rs S hf fun v H1 u M1 st S1 r hq => ?_
  refine q2 σ H1 σu M1 _ _ (rs.stp S st) S1 hq fun v2 H2 u2 M2 st2 S2 r2 hq2 => ?_
  have s12 := st.trans S st2
  refine ⟨u, u2, M2, _, S2, r.stp S1 st2, r2, hq2, fun v3 H3 u3 M3 st3 S3 r3 hq3 => ?_⟩
  have s13 := s12.trans S st3
  refine q3 σ H3 σu M3 _ _ (rs.stp S s13) S3 hq3 fun v4 H4 u4 M4 st4 S4 r4 hq4 => ?_
  have s14 := s13.trans S st4
  obtain ⟨a, b, rfl, rfl, hq4⟩ := hq4
  cases r3
  cases r4
  refine ⟨a, b, rfl, rfl, ?_⟩
  have rr := ((r.stp S1 st2).stp S2 st3).stp S3 st4
  have rr2 := (r2.stp S2 st3).stp S3 st4
  exact ⟨u, u2, _, M4, _, S4, rr, rr2, .int _, bin_int ho hq4, fun H' M' st' S' hq' => c.nx _ _ _ _ (s14.trans S st') (rs.stp S (s14.trans S st')) S' hq'⟩
theorem ss_if {c0 : Expr} {a b : List Stmt} {fc : WT} {f g : WSt} {pos : Pos} (hc : ST X fc c0) (h1 : SSs X f a) (h2 : SSs X g b) : SS X (fun D σ M => fc σ M fun k M1 => if k = true then f D σ M1 else g D σ M1) (.If c0 a b pos) := by
  obtain ⟨t0, p0, q0⟩ := hc
  obtain ⟨t1, p1, q1⟩ := h1
  obtain ⟨t2, p2, q2⟩ := h2
  refine ⟨_, ps_if p0 p1 p2, fun D Du σ H σu M rs S hf c => ?_⟩
  refine q0 σ H σu M _ _ rs S hf fun k H1 M1 st S1 hq => ?_
  cases k with
  | true => exact q1 D Du σ H1 σu M1 (rs.stp S st) S1 hq (c.tr S st)
  | false => exact q2 D Du σ H1 σu M1 (rs.stp S st) S1 hq (c.tr S st)
theorem ss_whl {c0 : Expr} {b : List Stmt} {fc : WT} {f : WSt} {pos : Pos} (hx : X.xe = fun _ _ => False) (hc : ST X fc c0) (h1 : SSs X f b) :
    SS X (fun D σ M => ∃ W : Nat → SU → Hm → Prop, (∃ m, W m σ M) ∧ ∀ m σ M, W m σ M → fc σ M fun k M1 =>
      if k = true then f ⟨fun σ' M' => ∃ m', m' < m ∧ W m' σ' M', D.rt, D.nx, fun σ' M' => ∃ m', m' < m ∧ W m' σ' M'⟩ σ M1 else D.nx σ M1) (.While c0 b [] pos) := by
  obtain ⟨t0, p0, q0⟩ := hc
  obtain ⟨t1, p1, q1⟩ := h1
  refine ⟨_, ps_while (by rw [hx]; exact PassesOwn.never) p0 p1, fun D Du σ H σu M rs S hf c => ?_⟩
  obtain ⟨W, ⟨m0, w0⟩, turn⟩ := hf
  refine ⟨fun m σ2 H2 => ∃ σu2 M2, Stp H M H2 M2 ∧ RelS (kwX X) H2 σ2 σu2 ∧ Sim (kwX X) H2 M2 ∧ W m σu2 M2, ⟨m0, σu, M, Stp.refl H M, rs, S, w0⟩, ?_⟩
  rintro m σ2 H2 ⟨σu2, M2, st2, rs2, S2, w2⟩
  refine q0 σ2 H2 σu2 M2 _ _ rs2 S2 (turn m σu2 M2 w2) fun k H3 M3 st3 S3 hq => ?_
  have s3 := st2.trans S st3
  have rs3 := rs2.stp S2 st3
  cases k with
  | false => exact c.nx _ _ _ _ s3 rs3 S3 hq
  | true =>
    refine ⟨fun σ' H' => ∃ m', m' < m ∧ ∃ σu2 M2, Stp H M H' M2 ∧ RelS (kwX X) H' σ' σu2 ∧ Sim (kwX X) H' M2 ∧ W m' σu2 M2, fun _ _ z => z, ?_⟩
    have back : ContS (kwX X) H3 M3 (fun σ' M' => ∃ m', m' < m ∧ W m' σ' M') (fun σ' H' => ∃ m', m' < m ∧ ∃ σu2 M2, Stp H M H' M2 ∧ RelS (kwX X) H' σ' σu2 ∧ Sim (kwX X) H' M2 ∧ W m' σu2 M2) := fun σ' H' σu' M' st' rs' S' ⟨m', hm, w'⟩ => ⟨m', hm, σu', M', s3.trans S st', rs', S', w'⟩
    exact q1 _ _ σ2 H3 σu2 M3 rs3 S3 hq ⟨back, c.rt.tr S s3, c.nx.tr S s3, back⟩
/-- the turns of a for -/
abbrev turnW (tg : Tg) (f : WSt) (D : EndsU) (ex : (Hm → Prop) → Hm → Prop) : U → (SU → Hm → Prop) → SU → Hm → Prop := fun x nx σ M => tgW tg x σ fun σ2 => f ⟨nx, fun u M => ex (D.rt u) M, fun σ M => ex (D.nx σ) M, nx⟩ σ2 M
def forW (fi : WI) (tg : Tg) (f : WSt) : WSt := fun D σ M => fi σ M fun items g ex M1 => forL (turnW tg f D ex) g (fun σ M => ex (D.nx σ) M) items σ M1
theorem for_core {K : Kw} {tgr : TG} {tg : Tg} {tb : TS} {f : WSt} (qg : EvG K tgr tg) (qb : EvS K tb f) {σ : L2.St} {σu : SU} {H1 : Hp} {M1 : Hm} {J : It} {items : List U} {g : Hm → Prop} {ex : (Hm → Prop) → Hm → Prop} {D : Ends} {Du : EndsU}
    (rs : RelS K H1 σ σu) (S1 : Sim K H1 M1) (ok : ItOk K H1 M1 J items g) (hg0 : g M1) (hc : forL (turnW tg f Du ex) g (fun σ M => ex (Du.nx σ) M) items σu M1)
    (hnx : ContS K H1 M1 (fun σ M => ex (Du.nx σ) M) D.nx) (hend : ∀ σ' H' σu' M', Stp H1 M1 H' M' → RelS K H' σ' σu' → Sim K H' M' → g M' → ex (Du.nx σu') M' → D.nx σ' H') (hrt : Cont K H1 M1 (fun u M => ex (Du.rt u) M) D.rt) :
    ∃ W : Nat → Nat → L2.St → Hp → Prop, (∃ m, W 0 m σ H1) ∧ ∀ i m σ H, W i m σ H →
      (J.stop i H ∧ D.nx σ H) ∨ (J.go i H ∧ ∃ N : L2.St → Hp → Prop, (∀ σ' H', N σ' H' → ∃ m', m' < m ∧ W (i + 1) m' σ' H') ∧ ∀ x H', J.yld i H x H' → tgr x σ H' fun σ2 H2 => tb { D with nx := N, ct := N, bk := D.nx } σ2 H2) := by
  let W : Nat → Nat → L2.St → Hp → Prop := fun i m σ2 H2 => m = items.length - i ∧ i ≤ items.length ∧ ∃ (σu2 : SU) (M2 : Hm), Stp H1 M1 H2 M2 ∧ RelS K H2 σ2 σu2 ∧ Sim K H2 M2 ∧ g M2 ∧ forL (turnW tg f Du ex) g (fun σ M => ex (Du.nx σ) M) (items.drop i) σu2 M2
  refine ⟨W, ⟨items.length, by simp, Nat.zero_le _, σu, M1, Stp.refl H1 M1, rs, S1, hg0, hc⟩, ?_⟩
  rintro i m σ2 H2 ⟨rfl, hi, σu2, M2, st2, rs2, S2, hg, hc⟩
  obtain ⟨go, stop⟩ := ok i H2 M2 st2 S2 hg
  by_cases hlt : i < items.length
  · right
    have hu : items[i]? = some items[i] := List.getElem?_eq_getElem hlt
    obtain ⟨jgo, jy⟩ := go _ hu
    refine ⟨jgo, fun σ' H' => ∃ m', m' < items.length - i ∧ W (i + 1) m' σ' H', fun _ _ z => z, fun x H3 hy => ?_⟩
    obtain ⟨st3, S3, rx⟩ := jy x H3 hy
    have hdrop : items.drop i = items[i] :: items.drop (i + 1) := List.drop_eq_getElem_cons hlt
    rw [hdrop] at hc
    have s3 := st2.trans S1 st3
    have hc : tgW tg items[i] σu2 fun σ4 => f ⟨fun σ' M' => g M' ∧ forL (turnW tg f Du ex) g (fun σ M => ex (Du.nx σ) M) (items.drop (i + 1)) σ' M', fun u M => ex (Du.rt u) M, fun σ M => ex (Du.nx σ) M, fun σ' M' => g M' ∧ forL (turnW tg f Du ex) g (fun σ M => ex (Du.nx σ) M) (items.drop (i + 1)) σ' M'⟩ σ4 M2 := hc
    refine qg x items[i] σ2 H3 σu2 M2 _ _ (rs2.stp S2 st3) rx hc fun σ4 σu4 rs4 hb _ => ?_
    have back : ContS K H3 M2 (fun σ' M' => g M' ∧ forL (turnW tg f Du ex) g (fun σ M => ex (Du.nx σ) M) (items.drop (i + 1)) σ' M') (fun σ' H' => ∃ m', m' < items.length - i ∧ W (i + 1) m' σ' H') := fun σ' H' σu' M' st' rs' S' ⟨g', h'⟩ =>
      ⟨items.length - (i + 1), by omega, rfl, by omega, σu', M', s3.trans S1 st', rs', S', g', h'⟩
    exact qb _ _ σ4 H3 σu4 M2 rs4 S3 hb ⟨back, hrt.tr S1 s3, hnx.tr S1 s3, back⟩
  · left
    have e : i = items.length := by omega
    subst e
    have z := hc
    rw [List.drop_length] at z
    exact ⟨stop rfl, hend _ _ _ _ st2 rs2 S2 hg z⟩
theorem ss_for {tgE iter : Expr} {body : List Stmt} {tg : Tg} {fi : WI} {f : WSt} {pos : Pos} (hx : X.xe = fun _ _ => False) (hc : X.calm = true) (hi : SI X tgE iter fi) (hg : SG X tgE tg) (hb : SSs X f body) (hs : notSet iter = true) : SS X (forW fi tg f) (.For tgE iter body [] pos) := by
  obtain ⟨ti, p, q⟩ := hi
  obtain ⟨tgr, pg, qg⟩ := hg
  obtain ⟨tb, pb, qb⟩ := hb
  refine ⟨_, ps_for (by rw [hx]; exact PassesOwn.never) hc p pg pb (no_set' hs), fun D Du σ H σu M rs S hf c => ?_⟩
  refine q σ H σu M _ _ rs S hf fun J H1 items g ex M1 st S1 ok hg0 hex hq => ?_
  subst hex
  exact for_core qg qb (rs.stp S st) S1 ok hg0 hq (c.nx.tr S st) (fun σ' H' σu' M' st' rs' S' _ hn => c.nx _ _ _ _ (st.trans S st') rs' S' hn) (c.rt.tr S st)
theorem ss_forK {tgE iter : Expr} {body : List Stmt} {i : Nat} {tg : Tg} {f : WSt} {pos : Pos} (hx : X.xe = fun _ _ => False) (hc : X.calm = true) (hi : PE X iter (tVar i)) (hg : SG X tgE tg) (hb : SSs X f body) (hs : notSet iter = true) : SS X (forW (keysI i) tg f) (.For tgE iter body [] pos) := by
  obtain ⟨tgr, pg, qg⟩ := hg
  obtain ⟨tb, pb, qb⟩ := hb
  refine ⟨_, ps_lock (ps_for (by rw [hx]; exact PassesOwn.never) hc (pi_keys hi) pg pb (no_set' hs)), fun D Du σ H σu M rs S hf c => ?_⟩
  obtain ⟨j, d, t, ks, ej, hs, hm, hq⟩ := hf
  cases ej
  obtain ⟨v, hv, rv⟩ := rs.2 i _ hs
  obtain rfl : v = .ref d := by cases rv; rfl
  obtain ⟨u, hd, mu, lk⟩ := lock_stp S hm
  refine ⟨d, u, hd, mu, fun od => ?_⟩
  obtain ⟨st, S1, hu⟩ := lk od
  have hu1 := hu_stp S st hu
  refine keys_run hv S1 upd_same um_same hu1 fun J ok => ?_
  have un : ∀ {H2 : Hp} {M2 : Hm}, Stp (upd H d (.frz od u)) (um M d (.dct true t ks)) H2 M2 → Sim (kwX X) H2 M2 → M2 d = some (.dct true t ks) → _ := fun {H2 M2} st2 S2 hm2 => unlock_stp S hm upd_same um_same st S1 st2 S2 hm2 (hu_stp S1 st2 hu1)
  have nxK : ContS (kwX X) (upd H d (.frz od u)) (um M d (.dct true t ks)) (fun σ M => M d = some (.dct true t ks) ∧ Du.nx σ (um M d (.dct false t ks))) (fun σ' H' => H' d = some (.frz od u) ∧ D.nx σ' (upd H' d u)) := fun σ' H' σu' M' st' rs' S' ⟨hm', hn⟩ => by
    obtain ⟨e2, st3, S3, f1, f2⟩ := un st' S' hm'
    exact ⟨e2, c.nx _ _ _ _ st3 ⟨rs'.1, fun i u e => let ⟨v, a, b⟩ := rs'.2 i u e; ⟨v, a, f1 _ _ b⟩⟩ S3 hn⟩
  refine for_core (D := ⟨fun σ' H' => H' d = some (.frz od u) ∧ D.nx σ' (upd H' d u), fun v H' => H' d = some (.frz od u) ∧ D.rt v (upd H' d u), fun σ' H' => H' d = some (.frz od u) ∧ D.bk σ' (upd H' d u), fun σ' H' => H' d = some (.frz od u) ∧ D.ct σ' (upd H' d u)⟩) (Du := Du)
    qg qb (rs.stp S st) S1 ok um_same hq nxK (fun σ' H' σu' M' st' rs' S' _ hn => nxK _ _ _ _ st' rs' S' hn) fun v H' x M' st' S' r' ⟨hm', hr⟩ => ?_
  obtain ⟨e2, st3, S3, f1, f2⟩ := un st' S' hm'
  exact ⟨e2, c.rt _ _ _ _ st3 S3 (f1 _ _ r') hr⟩
end
end Pl

set_option maxHeartbeats 4000000
/-! a dict made of what is walked, its keys tuples within one another -/
namespace Pl
open PySem PySem.Spec PyProof.Rows L2
section
variable {X : Cx} {pins : List (Addr × Obj)} {σ : L2.St} {H : Hp} {s : Shared} {M : Hm} {A : Around} {E : Value → Shared → Prop}
theorem n_dictSet (hu : A.units + 66 < cLine) (I : L2.Inv X pins σ H s) (S : Sim (kwX X) H M) {p : Addr} {ks : List (U × U)} (hm : M p = some (.dcn ks)) (hl : ks.length < LIM) {k w : U} {v y : V} {u x : Value} (hk : isKeyN k = true) (r : Rel (kwX X) H v k) (rv : RelV v u) (ry : RelV y x) (rw' : Rel (kwX X) H y w) {Q : Unit → Shared → Prop}
    (q : ∀ H' s', L2.Inv X pins σ H' s' → Stp H M H' (um M p (.dcn (dput ks k w))) → Sim (kwX X) H' (um M p (.dcn (dput ks k w))) → Q () s') : wpAny (model X.prog X.w) A (dictSet p u x) Q E s := by
  obtain ⟨xs, e, rn, dd, hs, hz⟩ := dcn_of I S hm
  obtain ⟨a, rfl⟩ := keyN_ref hk r
  obtain rfl : u = Value.ref a := rv
  refine wpAny_dictSet_heap (knd := nestedKind X.prog X.w) (show A.units + 8 < cLine by omega) (keyN_is I.hok I.kIn hk r) dd (fun h' dd' sb => ?_) hz
  obtain ⟨o, es, ep, h1, h2, h3, h4, h5, h6⟩ := dd'
  have hd : dcnP X.w p (storedH xs (nk k) a x) h' := ⟨o, es, ep, h1, h2, h3, h4, h6⟩
  have I2 : L2.Inv X pins σ (upd H p (.ext (dcnP X.w p (storedH xs (nk k) a x)))) { heap := h', gens := s.gens, drawn := s.drawn, toks := s.toks + (nestedKind X.prog X.w).draws (nk k), os := s.os } :=
    d_write (t' := s.toks + (nestedKind X.prog X.w).draws (nk k)) I (by rw [e]; trivial) sb ⟨o, h1⟩ (dcn_ok hd)
  have st : Stp H M (upd H p (.ext (dcnP X.w p (storedH xs (nk k) a x)))) (um M p (.dcn (dput ks k w))) := Stp.mut hm
  have rn2 : RelN (kwX X) (upd H p (.ext (dcnP X.w p (storedH xs (nk k) a x)))) (storedH xs (nk k) a x) (dput ks k w) := RelN.put (Paired.mapR rn fun p q x => ⟨⟨x.1.1, x.1.2.1, x.1.2.2.stp S st⟩, x.2.elim fun v y => ⟨v, y.1, y.2.stp S st⟩⟩) hk (r.stp S st) ry (rw'.stp S st)
  have hz2 : (storedH xs (nk k) a x).length ≤ sizeLine := by
    have h1 : (dput ks k w).length ≤ ks.length + 1 := by
      unfold dput
      split
      · rw [List.length_map]; omega
      · rw [List.length_append]; exact Nat.le_refl _
    rw [rn2.len]
    have := lim_line
    omega
  exact q _ _ I2 st (S.mut (m := .dcn (dput ks k w)) hm rfl ⟨_, upd_same, rn2, hs, hz2⟩)
end
def DSetN (K : Kw) (D : Addr) (y z : V) (H : Hp) (Nx : Hp → Prop) : Prop := ∃ M ks k w, Sim K H M ∧ M D = some (.dcn ks) ∧ ks.length < LIM ∧ isKeyN k = true ∧ Rel K H y k ∧ Rel K H z w ∧
  ∀ H', Stp H M H' (um M D (.dcn (dput ks k w))) → Sim K H' (um M D (.dcn (dput ks k w))) → Nx H'
def tDcN (K : Kw) (wi : TI) (g : TG) (tt : TT) (tk tv : TE) (vs : List Nat) : TE := fun σ H Q => wi σ H fun J H1 => ∀ D, H1 D = none → (D == sysModules) = false → ∃ W : Nat → Nat → Hp → Prop, (∃ m, W 0 m (upd H1 D (.ext (dcnP K.2 D [])))) ∧ ∀ i m H, W i m H →
  (J.stop i H ∧ Q (.ref D) H) ∨ (J.go i H ∧ ∃ Nx : Hp → Prop, (∀ H', Nx H' → ∃ m', m' < m ∧ W (i + 1) m' H') ∧ ∀ x H', J.yld i H x H' → g x (L2.wipe σ vs) H' fun σ2 H2 => L2.wipe σ2 vs = L2.wipe σ vs ∧ tt σ2 H2 fun b H3 =>
    if b = true then tk σ2 H3 fun y H4 => tv σ2 H4 fun z H5 => DSetN K D y z H5 Nx else Nx H3)
section
variable {X : Cx}
theorem dcn_core {pins : List (Addr × Obj)} {s : Shared} {σ : L2.St} {H : Hp} {Q : VK} {kx vx tg iter : Expr} {ifs : List Expr} {scope : Scope} {own : List (Str × Nat)} {pos pos' : Pos} {wi : TI} {g : TG} {tt : TT} {tk tv : TE} {use : Option (Value → Sem Unit)} {Qf : Value → Shared → Prop}
    (hu : X.A.units + 66 < cLine) (hc : X.calm = true) (hN : X.N.Nodup) (I : L2.Inv X pins σ H s) (hi : PI X tg iter wi) (ok : BlkOk X.N X.env.scope scope own)
    (hg : ∀ (s : Shared) (H : Hp) (C : Addr) (cl : List (Str × Addr)) (fp : List Addr), PG (X.blk s H scope (compEnvC scope cl C X.env) fp) tg g) (ht : ∀ (s : Shared) (H : Hp) (C : Addr) (cl : List (Str × Addr)) (fp : List Addr), PTs (X.blk s H scope (compEnvC scope cl C X.env) fp) ifs tt)
    (hk : ∀ (s : Shared) (H : Hp) (C : Addr) (cl : List (Str × Addr)) (fp : List Addr), PE (X.blk s H scope (compEnvC scope cl C X.env) fp) kx tk)
    (he : ∀ (s : Shared) (H : Hp) (C : Addr) (cl : List (Str × Addr)) (fp : List Addr), PE (X.blk s H scope (compEnvC scope cl C X.env) fp) vx tv) (hs : ∀ x, foldedSetIterable iter X.env x = pure x)
    (h : tDcN (kwX X) wi g tt tk tv (own.map (·.2)) σ H Q)
    (hRR : ∀ D C s' m H', L2.Inv X pins σ H' s' → Q (.ref D) H' → s'.heap.Ns C m → FpOk X pins H' C → compPost (model X.prog X.w) X.A X.xe use Qf (.ref D) C (.ok .next) s') :
    wpAny (model X.prog X.w) X.A (comprehension (.DictComp kx vx [⟨tg, iter, ifs, 0⟩] scope pos) scope X.env pos' newDict false (eval iter X.env) use) Qf X.xe s := by
  have hfree : ∀ y ∈ scope.names, y.2 = .free → ∃ c, X.env.cells.lookup y.1 = some c := fun y hy e => by
    rcases ok.free y hy e with k | k
    · exact I.ok.has _ (.inl k)
    · exact I.ok.has _ (.inr k)
  refine wpAny_comprehension_free (use := use) rfl hs (closure_ok hfree) ok.kind (fun y hy e => by rw [ok.uniq y hy, e])
    (thn (hi.run pins s σ H _ I h) fun xv s1 hx => thn hx fun itv s2 h2 => ?_)
  obtain ⟨it, fp, tn, J, H2, e, I2, T, st2, f2, q⟩ := h2
  subst e
  refine wpAny_newObj_type (newEnv_comp ?_)
  generalize hD : s2.heap.objs.size = D
  have hDn : H2 D = none := I2.hok.fresh (Nat.le_of_eq hD)
  have hDs : (D == sysModules) = false := by
    obtain ⟨_, z, _⟩ := dt_empty (P := X.prog) (w := X.w) (H := H2) s2.heap I2.big
    rw [← hD]
    exact z
  obtain ⟨W, ⟨m0, w0⟩, turn⟩ := q D hDn hDs
  generalize hs3 : ({ s2 with heap := s2.heap.push { cls := .type "dict", data := .dict #[] } } : Shared) = s3
  have I3 : L2.Inv X pins σ (upd H2 D (.ext (dcnP X.w D []))) s3 := by
    rw [← hs3, ← hD]
    exact I2.laid (t' := s2.toks) (fun b o e => Heap.get?_push_of_some _ e) (Nat.le_refl _) (dcn_ok ⟨_, #[], _, Heap.get?_push_size _ rfl, ⟨rfl, rfl, rfl⟩, rfl, rfl, List.nodup_nil⟩)
  have h3 : s3.heap = s2.heap.push { cls := .type "dict", data := .dict #[] } := by rw [← hs3]
  have sz : ∀ b ∈ fp, b < s2.heap.objs.size := fun b hb => by
    obtain ⟨o, e, _⟩ := T.obj _ _ st2 b hb
    exact Heap.lt_size e
  have f3 : ∀ b ∈ fp, FpOk X pins (upd H2 D (.ext (dcnP X.w D []))) b ∧ b < s3.heap.objs.size := fun b hb => by
    have hlt := sz b hb
    refine ⟨⟨?_, (f2 b hb).2⟩, by rw [h3, Heap.size_push]; exact Nat.lt_succ_of_lt hlt⟩
    rw [upd_ne (by rw [← hD]; exact Nat.ne_of_lt hlt)]
    exact (f2 b hb).1
  have st3 : tn 0 s3.heap := T.keep _ _ _ st2 fun b _ o e => by rw [h3]; exact Heap.get?_push_of_some _ e
  have I4 := block_start I3 ok hN f3
  generalize hH3 : upd H2 D (.ext (dcnP X.w D [])) = H3 at *
  have pg := hg s3 H3 s3.heap.objs.size (cellsFrom (s3.heap.objs.size + 1) scope.names (cloFrom X.env.cells scope.names [])) fp
  have pt := ht s3 H3 s3.heap.objs.size (cellsFrom (s3.heap.objs.size + 1) scope.names (cloFrom X.env.cells scope.names [])) fp
  have pk := hk s3 H3 s3.heap.objs.size (cellsFrom (s3.heap.objs.size + 1) scope.names (cloFrom X.env.cells scope.names [])) fp
  have pe := he s3 H3 s3.heap.objs.size (cellsFrom (s3.heap.objs.size + 1) scope.names (cloFrom X.env.cells scope.names [])) fp
  show codeAny _ _ (.compStart (.DictComp kx vx [⟨tg, iter, ifs, 0⟩] scope pos) 0 (.ref it) (.ref D) (compEnvC scope (cellsFrom (s3.heap.objs.size + 1) scope.names (cloFrom X.env.cells scope.names [])) s3.heap.objs.size X.env)) (compPost (model X.prog X.w) X.A X.xe use Qf (.ref D) s3.heap.objs.size) { s3 with heap := pushCells (s3.heap.push { cls := .type "dict", data := .dict #[] }) scope.names }
  have nfp : ∀ b ∈ fp, H3 b = none := fun b hb => (f3 b hb).1.1
  generalize hce : compEnvC scope (cellsFrom (s3.heap.objs.size + 1) scope.names (cloFrom X.env.cells scope.names [])) s3.heap.objs.size X.env = ce at I4 pg pt pk pe ⊢
  have cL : ce.locals = s3.heap.objs.size := by subst hce; rfl
  generalize hs4 : ({ s3 with heap := pushCells (s3.heap.push { cls := .type "dict", data := .dict #[] }) scope.names } : Shared) = s4 at I4 ⊢
  have st4 : tn 0 s4.heap := T.keep _ _ _ st3 fun b _ o e => by rw [← hs4]; exact pushCells_keeps _ _ _ _ (Heap.get?_push_of_some _ e)
  have stat : ∀ {σ' : L2.St} {H' : Hp} {s' : Shared}, L2.Inv (X.blk s3 H3 scope ce fp) [] σ' H' s' → (∀ b ∈ fp, H' b = none) → ∀ b ∈ fp, FpOk (X.blk s3 H3 scope ce fp) [] H' b := fun {σ' H' s'} I' hn b hb =>
    ⟨hn b hb, (I'.ok.exf b hb).1, I'.ok.exfs b hb, .inl hb, fun x c e => (I'.ok.exf b hb).2 x c e, fun p hp => absurd (show p ∈ ([] : List (Addr × Obj)) ++ [] from hp) (by simp)⟩
  have loop : codeAny (model X.prog X.w) X.A (.compLoop (.DictComp kx vx [⟨tg, iter, ifs, 0⟩] scope pos) 0 (.ref it) (.ref D) ce) (compPost (model X.prog X.w) X.A X.xe use Qf (.ref D) s3.heap.objs.size) s4 := by
    refine compLoop_anyD (fun n s' => ∃ i H', L2.Inv (X.blk s3 H3 scope ce fp) [] (L2.wipe σ (own.map (·.2))) H' s' ∧ tn i s'.heap ∧ (∀ b ∈ fp, H' b = none) ∧ W i n H') ?_ m0 ⟨0, H3, I4, st4, nfp, w0⟩
    rintro n s5 ⟨i, H5, I5, st5, n5, w5⟩
    rcases turn i n H5 w5 with ⟨stop, qq⟩ | ⟨go, Nx, hNx, step⟩
    · have td := T.done (X.blk s3 H3 scope ce fp) rfl rfl rfl hc i [] s5 _ H5 (fun _ _ => False) I5 (stat I5 n5) st5 stop
      refine thnF td fun r s6 ⟨hr, I6⟩ => ?_
      subst hr
      have I7 : L2.Inv X pins σ H5 s6 := I3.call' (ch := fp) I6.os I6.base I6.hok I6.bare fun b hb => ⟨(f3 b hb).1.2.2.2.1, (f3 b hb).1.2.1, (f3 b hb).1.2.2.2.2.1, (f3 b hb).1.2.2.2.2.2⟩
      have nC : H5 s3.heap.objs.size = none := by
        have z : H5 ce.locals = none := I6.free
        rw [cL] at z
        exact z
      obtain ⟨m, hn, _⟩ := I6.loc
      have hn : s6.heap.Ns ce.locals m := hn
      rw [cL] at hn
      exact hRR D s3.heap.objs.size s6 m H5 I7 qq hn (I3.fpOk (Nat.le_refl _) nC)
    · have ti := T.item (X.blk s3 H3 scope ce fp) rfl rfl rfl hc i [] s5 _ H5 (fun _ _ => False) I5 (stat I5 n5) st5 go
      refine thnF ti fun r s6 ⟨u, hr, h6⟩ => ?_
      subst hr
      refine thnF h6 fun _ s7 ⟨x, H7, I7, r7, y7, st7, n7⟩ => ?_
      have I7' := I7.pinned (stat I7 n7) (T.obj _ _ st7)
      refine thnF (pg.run _ s7 _ H7 x u _ I7' r7 (step x H7 y7)) fun _ s8 ⟨σ8, H8, I8, hw8, q8⟩ => ?_
      refine thnF (pt.run _ s8 σ8 H8 _ I8 q8) fun b s9 ⟨H9, I9, q9⟩ => ?_
      have fin : ∀ {s' : Shared} {H' : Hp}, L2.Inv (X.blk s3 H3 scope ce fp) ([] ++ pinsAt fp s7.heap) σ8 H' s' → Nx H' → ∃ m, m < n ∧ ∃ i H', L2.Inv (X.blk s3 H3 scope ce fp) [] (L2.wipe σ (own.map (·.2))) H' s' ∧ tn i s'.heap ∧ (∀ b ∈ fp, H' b = none) ∧ W i m H' := fun {s' H'} I' nx => by
        obtain ⟨m', hm, w'⟩ := hNx H' nx
        have pin' : ∀ b ∈ fp, ∀ o, s7.heap.get? b = some o → s'.heap.get? b = some o ∧ H' b = none := fun b hb o e =>
          let z := I'.pin (b, o) (List.mem_append_right _ (List.mem_append_right _ (mem_pinsAt hb e)))
          ⟨z.1, z.2.1⟩
        have hl : (L2.wipe σ (own.map (·.2))).length = σ8.length := by rw [← hw8, L2.wipe_length]
        refine ⟨m', hm, i + 1, H', (I'.unpinned (pins := [])).weak hl (fun j v e => ?_), T.keep _ _ _ st7 fun b hb o e => (pin' b hb o e).1, fun b hb => ?_, w'⟩
        · rw [← hw8] at e
          exact (L2.wipe_some e).1
        · obtain ⟨o, e, _⟩ := T.obj _ _ st7 b hb
          exact (pin' b hb o e).2
      cases b with
      | false =>
        simp only [Bool.false_eq_true, if_false] at q9 ⊢
        exact fin I9 q9
      | true =>
        simp only [if_true] at q9 ⊢
        refine thnF (pk.run _ s9 σ8 H9 _ I9 q9) fun z s10 ⟨yk, H10, I10, r10, q10⟩ => ?_
        refine thnF (pe.run _ s10 σ8 H10 _ I10 q10) fun z2 s11 ⟨yv, H11, I11, r11, M, ks, k, w, S, hM, hl, hk, ry, rz, nx⟩ => ?_
        exact n_dictSet (X := X.blk s3 H3 scope ce fp) hu I11 S hM hl hk ry r10 r11 rz fun H12 s12 I12 st12 S12 => fin I12 (nx H12 st12 S12)
  exact codeAny_compStart_dict loop (T.self X.A 0 _ _ _ st4 loop)
theorem pe_dcN {kx vx tg iter : Expr} {ifs : List Expr} {scope : Scope} {own : List (Str × Nat)} {pos : Pos} {wi : TI} {g : TG} {tt : TT} {tk tv : TE} (hu : X.A.units + 66 < cLine) (hc : X.calm = true) (hN : X.N.Nodup) (hi : PI X tg iter wi) (ok : BlkOk X.N X.env.scope scope own)
    (hg : ∀ (s : Shared) (H : Hp) (C : Addr) (cl : List (Str × Addr)) (fp : List Addr), PG (X.blk s H scope (compEnvC scope cl C X.env) fp) tg g) (ht : ∀ (s : Shared) (H : Hp) (C : Addr) (cl : List (Str × Addr)) (fp : List Addr), PTs (X.blk s H scope (compEnvC scope cl C X.env) fp) ifs tt)
    (hk : ∀ (s : Shared) (H : Hp) (C : Addr) (cl : List (Str × Addr)) (fp : List Addr), PE (X.blk s H scope (compEnvC scope cl C X.env) fp) kx tk)
    (he : ∀ (s : Shared) (H : Hp) (C : Addr) (cl : List (Str × Addr)) (fp : List Addr), PE (X.blk s H scope (compEnvC scope cl C X.env) fp) vx tv) (hs : ∀ x, foldedSetIterable iter X.env x = pure x) :
    PE X (.DictComp kx vx [⟨tg, iter, ifs, 0⟩] scope pos) (tDcN (kwX X) wi g tt tk tv (own.map (·.2))) := by
  refine ⟨fun pins s σ H Q I h => ?_⟩
  rw [arm_eval_DictComp]
  refine dcn_core hu hc hN I hi ok hg ht hk he hs h fun D C s' m H' I' q hn f => ⟨m, hn, fun h'' sb => ?_⟩
  obtain ⟨f0, f1, f2, f3, f4, f5⟩ := f
  exact ⟨.ref D, H', I'.turned (t' := s'.toks) (fun b o hb e => (sb.2 b hb).trans e) f0 f1 f3 f4 f5, rfl, q⟩
end
theorem ev_dcompN {K : Kw} {ti : TI} {fi : WI} {tgr : TG} {tg : Tg} {tt : TT} {fc : WT} {tk tv : TE} {fk fv : WE} {vs : List Nat} (qi : EvI K ti fi) (qg : EvG K tgr tg) (qc : EvT K tt fc) (qk : EvE K tk fk) (qv : EvE K tv fv) (hvs : vs = tg.slots) :
    EvE K (tDcN K ti tgr tt tk tv vs) (dcompW fi tg fc fk fv) := fun σ H σu M Qu Q rs S hf c => by
  refine qi σ H σu M _ _ rs S hf fun J H1 items g ex M1 st S1 ok hg0 hex hq => ?_
  subst hex
  intro D hD hDs
  obtain ⟨hg1, hc⟩ := hq D (S1.fr hD)
  have S2 : Sim K (upd H1 D (.ext (dcnP K.2 D []))) (um M1 D (.dcn [])) := S1.new (m := .dcn []) hD ⟨[], upd_same, .nil, hDs, Nat.zero_le _⟩
  have st2 : Stp H1 M1 (upd H1 D (.ext (dcnP K.2 D []))) (um M1 D (.dcn [])) := Stp.new S1 hD
  let W : Nat → Nat → Hp → Prop := fun i m H2 => m = items.length - i ∧ i ≤ items.length ∧ ∃ M2, Stp H1 M1 H2 M2 ∧ Sim K H2 M2 ∧ g M2 ∧ dcompL (dstepW tg fc fk fv σu D) g (fun M => Qu (.ref D) M) (items.drop i) M2
  refine ⟨W, ⟨items.length, by simp, Nat.zero_le _, _, st2, S2, hg1, hc⟩, ?_⟩
  rintro i m H2 ⟨rfl, hi, M2, st3, S3, hg, hc⟩
  obtain ⟨go, stop⟩ := ok i H2 M2 st3 S3 hg
  by_cases hlt : i < items.length
  · right
    have hu : items[i]? = some items[i] := List.getElem?_eq_getElem hlt
    obtain ⟨jgo, jy⟩ := go _ hu
    refine ⟨jgo, fun H' => ∃ m', m' < items.length - i ∧ W (i + 1) m' H', fun H' h => h, fun x H3 hy => ?_⟩
    obtain ⟨st4, S4, rx⟩ := jy x H3 hy
    rw [List.drop_eq_getElem_cons hlt] at hc
    have hc : tgW tg items[i] (wipU σu tg.slots) fun σ2 => fc σ2 M2 fun b M3 => if b = true then fk σ2 M3 fun y M4 => fv σ2 M4 fun z M5 => dsetN D y z M5 (fun M' => g M' ∧ dcompL (dstepW tg fc fk fv σu D) g (fun M => Qu (.ref D) M) (items.drop (i + 1)) M') else (g M3 ∧ dcompL (dstepW tg fc fk fv σu D) g (fun M => Qu (.ref D) M) (items.drop (i + 1)) M3) := hc
    have rs3 : RelS K H3 (L2.wipe σ vs) (wipU σu tg.slots) := by
      rw [hvs]
      exact ((rs.stp S st).stp S1 (st3.trans S1 st4)).wipe _
    refine qg x items[i] (L2.wipe σ vs) H3 (wipU σu tg.slots) M2 _ _ rs3 rx hc fun σ4 σu4 rs4 hc4 hw => ?_
    refine ⟨by
      have e := hw vs (by rw [hvs]; exact fun i hi => hi)
      rw [e]
      exact wipe_wipe σ vs, ?_⟩
    refine qc σ4 H3 σu4 M2 _ _ rs4 S4 hc4 fun b H5 M5 st5 S5 hb => ?_
    have stA : Stp H1 M1 H5 M5 := (st3.trans S1 st4).trans S1 st5
    cases b with
    | false =>
      obtain ⟨g5, hrest⟩ := hb
      exact ⟨_, by omega, rfl, by omega, M5, stA, S5, g5, hrest⟩
    | true =>
      refine qk σ4 H5 σu4 M5 _ _ (rs4.stp S4 st5) S5 hb fun y H6 uy M6 st6 S6 ry hk => ?_
      refine qv σ4 H6 σu4 M6 _ _ ((rs4.stp S4 st5).stp S5 st6) S6 hk fun z H7 uz M7 st7 S7 rz hk2 => ?_
      obtain ⟨ks, h1, h2, h3, g7, hrest⟩ := hk2
      exact ⟨M7, ks, uy, uz, S7, h1, h3, h2, ry.stp S6 st7, rz, fun H8 st8 S8 => ⟨_, by omega, rfl, by omega, _, ((stA.trans S1 st6).trans S1 st7).trans S1 st8, S8, g7, hrest⟩⟩
  · left
    have e : i = items.length := by omega
    subst e
    rw [List.drop_length] at hc
    exact ⟨stop rfl, c (.ref D) H2 (.ref D) M2 (st.trans S st3) S3 (.ref D) hc⟩
section
variable {X : Cx}
theorem se_dcompN {tgE iter kx vx : Expr} {ifs : List Expr} {scope : Scope} {own : List (Str × Nat)} {tg : Tg} {fi : WI} {fc : WT} {fk fv : WE} {pos : Pos} (hu : X.A.units + 66 < cLine) (hi : SI X tgE iter fi) (h : CompOk X tgE kx ifs scope own tg fc fk) (h2 : CompOk X tgE vx ifs scope own tg fc fv) (hs : notSet iter = true) :
    SE1 X (dcompW fi tg fc fk fv) (.DictComp kx vx [⟨tgE, iter, ifs, 0⟩] scope pos) := by
  obtain ⟨ti, p, q⟩ := hi
  obtain ⟨tt, h1, h2', h3, h4⟩ := h.run
  exact ⟨_, pe_dcN hu h.calm h.nd p h.blk h1 h2' h3 (fun s H C cl fp => (h2.e s H C cl fp).pe) (no_set' hs), ev_dcompN q ev_cG h4 ev_cE ev_cE h.own⟩
end
end Pl

set_option maxHeartbeats 4000000
/-! a dict display with one entry, its key a tuple -/
namespace Pl
open PySem PySem.Spec PyProof.Rows L2
def DNewN (K : Kw) (D : Addr) (y z : V) (H : Hp) (Nx : Hp → Prop) : Prop := ∃ M k w, Sim K H M ∧ M D = some (.dcn []) ∧ isKeyN k = true ∧ Rel K H y k ∧ Rel K H z w ∧
  ∀ H', Stp H M H' (um M D (.dcn [(k, w)])) → Sim K H' (um M D (.dcn [(k, w)])) → Nx H'
def tDispN (K : Kw) (t1 t2 : TE) : TE := fun σ H Q => ∀ p, H p = none → (p == sysModules) = false → t1 σ (upd H p (.ext (dcnP K.2 p []))) fun y H1 => t2 σ H1 fun z H2 => DNewN K p y z H2 fun H' => Q (.ref p) H'
section
variable {X : Cx}
theorem pe_dispN (hu : X.A.units + 66 < cLine) {kx vx : Expr} {pos : Pos} {t1 t2 : TE} (h1 : PE X kx t1) (h2 : PE X vx t2) : PE X (.Dict [some kx] [vx] pos) (tDispN (kwX X) t1 t2) := by
  refine ⟨fun pins s σ H Q I q => ?_⟩
  have hn := I.hok.fresh (Nat.le_refl s.heap.objs.size)
  obtain ⟨_, hDs, _⟩ := dt_empty (P := X.prog) (w := X.w) (H := H) s.heap I.big
  have d0 : dcnP X.w s.heap.objs.size [] (s.heap.push { cls := .type "dict", data := .dict #[] }) := ⟨_, #[], _, Heap.get?_push_size _ rfl, ⟨rfl, rfl, rfl⟩, rfl, rfl, List.nodup_nil⟩
  have I1 := I.laid (a := s.heap.objs.size) (o := .ext (dcnP X.w s.heap.objs.size [])) (h' := s.heap.push { cls := .type "dict", data := .dict #[] }) (t' := s.toks) (fun b o e => Heap.get?_push_of_some _ e) (Nat.le_refl _) (dcn_ok d0)
  have hpt := pairTrees_length [some kx] [vx] X.env pos rfl rfl
  have h1p : ([some kx] : List (Option Expr)).length = 1 := rfl
  rw [h1p] at hpt
  rw [arm_eval_Dict, zip_pairTrees [some kx] [vx] X.env pos rfl rfl, dictDisplay_pairs (pairTrees [some kx] [vx] X.env pos) (fun z => by rw [z] at hpt; cases hpt) (by rw [hpt]; decide)]
  refine wpAny_bind (wpAny_standAt (wpAny_bind (wpAny_subDictH (knd := nestedKind X.prog X.w) (show X.A.units + 8 < cLine by omega) (by rw [hpt]; decide) ?_)))
  have q0 := q _ hn hDs
  refine thn ((pps_cons h1 h2 pps_nil).run pins _ σ _ (fun ps H2 => match ps with | [(y, z)] => DNewN (kwX X) s.heap.objs.size y z H2 fun H' => Q (.ref s.heap.objs.size) H' | _ => False) I1 q0) fun ws s2 ⟨ps, H2, I2, rel, q2⟩ => ?_
  split at q2
  · rename_i y z
    obtain ⟨M, k, w, S, hm, hk, r, rw', q3⟩ := q2
    cases rel with
    | @cons _ wv _ _ rh rt =>
      cases rt
      obtain ⟨u, x⟩ := wv
      obtain ⟨rv, ry⟩ := rh
      obtain ⟨xs, e, rn, dd, hs, hz⟩ := dcn_of I2 S hm
      cases rn
      obtain ⟨a, rfl⟩ := keyN_ref hk r
      obtain rfl : u = Value.ref a := rv
      refine ⟨[(nk k, a, x)], ⟨rfl, rfl, keyN_is I2.hok I2.kIn hk r, True.intro⟩, dd, fun h' tk dd' sb => wpAny_pure ?_⟩
      have dd' : Heap.DictOfH (nestedKind X.prog X.w) h' s.heap.objs.size [(nk k, a, x)] := dd'
      obtain ⟨o, es, ep, g1, g2, g3, g4, g5, g6⟩ := dd'
      have hd : dcnP X.w s.heap.objs.size [(nk k, a, x)] h' := ⟨o, es, ep, g1, g2, g3, g4, g6⟩
      have I3 := d_write (t' := tk) I2 (by rw [e]; trivial) sb ⟨o, g1⟩ (dcn_ok hd)
      have st : Stp H2 M (upd H2 s.heap.objs.size (.ext (dcnP X.w s.heap.objs.size [(nk k, a, x)]))) (um M s.heap.objs.size (.dcn [(k, w)])) := Stp.mut hm
      refine ⟨.ref s.heap.objs.size, _, I3, rfl, q3 _ st (S.mut (m := .dcn [(k, w)]) hm rfl ⟨_, upd_same, .cons ⟨⟨hk, rfl, r.stp S st⟩, _, ry, rw'.stp S st⟩ .nil, hs, by rw [sizeLine_eq]; simp⟩)⟩
  · exact q2.elim
theorem se_ddispN (hu : X.A.units + 66 < cLine) {kx vx : Expr} {pos : Pos} {f g : WE} (h1 : SE1 X f kx) (h2 : SE1 X g vx) : SE1 X (ddispNW f g) (.Dict [some kx] [vx] pos) := by
  obtain ⟨t1, p1, q1⟩ := h1
  obtain ⟨t2, p2, q2⟩ := h2
  refine ⟨_, pe_dispN hu p1 p2, fun σ H σu M Qu Q rs S hf c p hp hs => ?_⟩
  have S1 : Sim (kwX X) (upd H p (.ext (dcnP X.w p []))) (um M p (.dcn [])) := S.new (m := .dcn []) hp ⟨[], upd_same, .nil, hs, Nat.zero_le _⟩
  have st1 : Stp H M (upd H p (.ext (dcnP X.w p []))) (um M p (.dcn [])) := Stp.new S hp
  refine q1 σ _ σu _ _ _ (rs.stp S st1) S1 (hf p (S.fr hp)) fun y H1 k M1 st2 S2 ry hf1 => ?_
  refine q2 σ H1 σu M1 _ _ ((rs.stp S st1).stp S1 st2) S2 hf1 fun z H2 u M2 st3 S3 rz hq => ?_
  obtain ⟨hm, hk, hq⟩ := hq
  refine ⟨M2, k, u, S3, hm, hk, ry.stp S2 st3, rz, fun H' st4 S4 => ?_⟩
  exact c _ _ (.ref p) _ (((st1.trans S st2).trans S st3).trans S st4) S4 (.ref p) hq
end
end Pl

set_option maxHeartbeats 4000000
/-! d.get(k, x) where the keys of d are nested -/
namespace Pl
open PySem PySem.Spec PyProof.Rows L2
def DGetN (K : Kw) (p : Addr) (y z : V) (H : Hp) (Q : VK) : Prop := ∃ M ks k d, Sim K H M ∧ M p = some (.dcn ks) ∧ isKeyN k = true ∧ Rel K H y k ∧ Rel K H z d ∧ ∀ v, Rel K H v ((dfind ks k).getD d) → Q v H
def tDGetN (K : Kw) (t1 t2 t3 : TE) : TE := fun σ H Q => t1 σ H fun x H1 => ∃ p M ks, x = .ref p ∧ (Sim K H1 M ∧ M p = some (.dcn ks)) ∧ t2 σ H1 fun y H2 => t3 σ H2 fun z H3 => DGetN K p y z H3 Q
section
variable {X : Cx}
theorem pe_dgetN (hu : X.A.units + 66 < cLine) {o e d : Expr} {apos pos : Pos} {t1 t2 t3 : TE} (hs : isStar e = false) (hs2 : isStar d = false) (hline : (apos.endLine == pos.line) = true) (hb : notSup o = true) (h1 : PE X o t1) (h2 : PE X e t2) (h3 : PE X d t3) :
    PE X (.Call (.Attribute o "get" apos) [e, d] [] pos) (tDGetN (kwX X) t1 t2 t3) := by
  have hall : [e, d].all (fun e => !isStar e) = true := by simp [hs, hs2]
  refine ⟨fun pins s σ H Q I h => ?_⟩
  refine wpAny_Call_method (base_of hb) (few_args hall (by simp)) hline PySem.F.plainAttrs_dict PySem.F.slot_dict_get PySem.F.type_dict_get (thn (h1.run pins s σ H _ I h) fun u s1 ⟨x, H1, I1, rx, p, M1, ks1, ex, ⟨S1, hm1⟩, q1⟩ => ?_)
  subst ex
  obtain rfl : u = Value.ref p := rx
  obtain ⟨xs1, e1, rn1, dd1, hsys, hz1⟩ := dcn_of I1 S1 hm1
  refine ⟨dd1.typeIs, fun b q => ?_, ?_⟩
  · cases q
    obtain ⟨ob, _, _, g1, g2, _⟩ := dd1
    exact ⟨ob, g1, g2.2.1⟩
  rw [star_cons hs, star_cons hs2]
  refine wpAny_dict_get2_heap (knd := nestedKind X.prog X.w) (show (nestedKind X.prog X.w).room X.A.in1 from (show X.A.in1.units + 8 < cLine by unfold Around.in1; simp only; omega)) hsys ?_
  refine thn (h2.run pins s1 σ H1 _ I1 q1) fun iv s2 ⟨y, H2, I2, ry, q2⟩ => ?_
  refine thn (h3.run pins s2 σ H2 _ I2 q2) fun fv s3 ⟨z, H3, I3, rz, q3⟩ => ?_
  obtain ⟨M, ks, k, dv, S, hm, hk, r, rd, q3⟩ := q3
  obtain ⟨xs, e3, rn, dd, hs3, hz⟩ := dcn_of I3 S hm
  obtain ⟨a, rfl⟩ := keyN_ref hk r
  obtain rfl : iv = Value.ref a := ry
  refine ⟨a, nk k, xs, rfl, keyN_is I3.hok I3.kIn hk r, dd, ?_⟩
  rcases rn.find hk with ⟨g1, g2⟩ | ⟨q0, v, w', g1, g2, g3, g4⟩
  · rw [g1]
    rw [g2] at q3
    exact ⟨z, H3, I3.tok _, rz, q3 z rd⟩
  · rw [g1]
    rw [g2] at q3
    exact ⟨v, H3, I3.tok _, g3, q3 v g4⟩
theorem se_dgetN {o e d : Expr} {f g h : WE} {apos pos : Pos} (hu : X.A.units + 66 < cLine) (hs : isStar e = false) (hs2 : isStar d = false) (hline : (apos.endLine == pos.line) = true) (hb : notSup o = true) (h1 : SE1 X f o) (h2 : SE1 X g e) (h3 : SE1 X h d) :
    SE1 X (fun σ M Q => f σ M fun x M1 => (∃ p ks, x = .ref p ∧ M1 p = some (.dcn ks)) ∧ g σ M1 fun y M2 => h σ M2 fun v M3 => dgetNW x y v M3 Q) (.Call (.Attribute o "get" apos) [e, d] [] pos) := by
  obtain ⟨t1, p1, q1⟩ := h1
  obtain ⟨t2, p2, q2⟩ := h2
  obtain ⟨t3, p3, q3⟩ := h3
  refine ⟨_, pe_dgetN hu hs hs2 hline hb p1 p2 p3, fun σ H σu M Qu Q rs S hf c => ?_⟩
  refine q1 σ H σu M _ _ rs S hf fun v H1 u M1 st S1 r hq => ?_
  obtain ⟨⟨p, ks, rfl, hm⟩, hq⟩ := hq
  cases r
  refine ⟨p, M1, ks, rfl, ⟨S1, hm⟩, ?_⟩
  refine q2 σ H1 σu M1 _ _ (rs.stp S st) S1 hq fun y H2 uy M2 st2 S2 ry hq2 => ?_
  refine q3 σ H2 σu M2 _ _ (rs.stp S (st.trans S st2)) S2 hq2 fun w H3 uw M3 st3 S3 rw' hq3 => ?_
  obtain ⟨p', ks', e, hm3, hk, hq3⟩ := hq3
  cases e
  have cc := c.tr S ((st.trans S st2).trans S st3)
  exact ⟨M3, ks', uy, uw, S3, hm3, hk, ry.stp S2 st3, rw', fun v rv => cc.at_ S3 rv hq3⟩
end
end Pl

set_option maxHeartbeats 4000000
/-! the check of a text against the small syntax, and what it is worth -/
namespace Pl
open PySem L2
structure Ck where
  sc : Scope
  N : List Str
  T : List Df
  cs : List Cd := []
  ks : List (Str × Int) := []
  ss : List (Str × Str) := []
  ts : List (Str × List Int) := []
  ds : List (Str × U) := []
def visB (sc : Scope) (x : Str) : Bool := match sc.names.lookup x with
  | some .local => true
  | some .cell => true
  | some .free => true
  | _ => false
def locB (sc : Scope) (x : Str) : Bool := match sc.names.lookup x with
  | some .local => true
  | some .cell => true
  | _ => false
def ownB (sc : Scope) (x : Str) : Bool := match sc.names.lookup x with
  | some .local => true
  | _ => false
def glB (sc : Scope) (x : Str) : Bool := match sc.names.lookup x with
  | some .globalImplicit => true
  | _ => false
def okN (x : Str) : Bool := !(x == ("__debug__" : Str)) && !(x == ("__classdict__" : Str)) && !(x == ("__name__" : Str))
def varB (c : Ck) (i : Nat) (x : Str) : Bool := decide (c.N[i]? = some x) && visB c.sc x && okN x
def bfnN : Bfn → Str
  | .len => "len" | .list => "list" | .tuple => "tuple" | .int => "int" | .abs => "abs" | .max => "max" | .min => "min" | .sorted => "sorted" | .sum => "sum" | .all => "all" | .any => "any" | .tupd => "tuple" | .dict => "dict" | _ => ""
def bltNames : List Str := ["len", "list", "tuple", "int", "abs", "max", "min", "range", "isinstance", "str", "bool", "sorted", "enumerate", "sum", "all", "any", "zip", "set", "dict", "reversed"]
def isEn : E → Bool
  | .iEnum _ => true
  | .iZip _ _ => true
  | _ => false
def isTupE : Expr → Bool
  | .Tuple _ _ _ => true
  | _ => false
/-- enumerate wants a target of several names -/
def enOk (it : E) (g : Expr) : Bool := !isEn it || isTupE g
def ckTg (tg : Tg) (N : List Str) (ok : Str → Bool) : Expr → Bool
  | .Name x _ => (match tg with | .one i => decide (N[i]? = some x) && ok x | _ => false)
  | .Tuple es _ _ => (match tg with | .many is => namesB N ok is es | _ => false)
  | _ => false
def gFn (c : Ck) (f n : Nat) (x : Str) : Bool := (match c.T[f]? with | some d => decide (d.cls = none) && (decide (d.name = x) && decide (d.ps.length = n)) | none => false) && (glB c.sc x && okN x)
def gBl (c : Ck) (n x : Str) : Bool := decide (x = n) && (glB c.sc x && okN x)
def hasMeth (c : Ck) (cn m : Str) (f : Nat) : Bool := c.cs.any fun cd => decide (cd.name = cn) && cd.mets.any fun p => decide (p = (m, f))
def hasProp (c : Ck) (cn m : Str) (f : Nat) : Bool := c.cs.any fun cd => decide (cd.name = cn) && cd.prps.any fun p => decide (p = (m, f))
def hasInit (c : Ck) (cn : Str) (f : Nat) : Bool := c.cs.any fun cd => decide (cd.name = cn) && decide (cd.init = some f)
def hasFld (c : Ck) (cn f : Str) : Bool := c.cs.any fun cd => decide (cd.name = cn) && cd.flds.any fun g => decide (g = f)

mutual
def ckE : E → Ck → Expr → Bool
  | .var i, c, e => (match e with | .Name x _ => varB c i x | _ => false)
  | .int i, _, e => (match e with | .Constant (.int j) _ _ => decide (i = j) | _ => false)
  | .str i, _, e => (match e with | .Constant (.str j) _ _ => decide (i = j) | _ => false)
  | .bl i, _, e => (match e with | .Constant (.bool j) _ _ => decide (i = j) | _ => false)
  | .non, _, e => (match e with | .Constant .none _ _ => true | _ => false)
  | .nil, _, _ => false
  | .cons _ _, _, _ => false
  | .tup es, c, e => (match e with | .Tuple xs _ _ => ckL es c xs | _ => false)
  | .dtup es, c, e => (match e with | .Tuple xs _ _ => ckL es c xs | _ => false)
  | .lst es, c, e => (match e with | .List xs _ => ckL es c xs | _ => false)
  | .dnew _, _, e => (match e with | .Dict [] [] _ => true | _ => false)
  | .ddisp es, c, e => (match e with | .Dict keys values _ => keys.all (·.isSome) && (decide (keys.length = values.length) && (!keys.isEmpty && (decide (keys.length ≤ 15) && ckL es c (flatK keys values)))) | _ => false)
  | .dnewN, _, e => (match e with | .Dict [] [] _ => true | _ => false)
  | .ddispN a b, c, e => (match e with | .Dict [some x] [y] _ => ckE a c x && ckE b c y | _ => false)
  | .bin op a b, c, e => (match e with | .BinOp x o y _ => decide (o = bopOf op) && (ckE a c x && ckE b c y) | _ => false)
  | .neg a, c, e => (match e with | .UnaryOp .USub x _ => ckE a c x | _ => false)
  | .cmp op a b, c, e => (match e with | .Compare x [o] [y] _ => decide (o = copOf op) && (!behindInMarks o y && (ckE a c x && ckE b c y)) | _ => false)
  | .chain o1 o2 a b d, c, e => (match e with | .Compare x [p, q] [y, z] _ => decide (p = copOf o1) && (decide (q = copOf o2) && (!lastMarks [p, q] [y, z] && (ckE a c x && (ckE b c y && ckE d c z)))) | _ => false)
  | .isN a, c, e => (match e with | .Compare x [.Is] [.Constant .none _ _] _ => ckE a c x | _ => false)
  | .notN a, c, e => (match e with | .Compare x [.IsNot] [.Constant .none _ _] _ => ckE a c x | _ => false)
  | .isB neg b a, c, e => (match e with | .Compare x [o] [.Constant (.bool b') _ _] _ => decide (o = if neg then CmpOp.IsNot else CmpOp.Is) && (decide (b' = b) && ckE a c x) | _ => false)
  | .ands es, c, e => (match e with | .BoolOp .And xs _ => !xs.isEmpty && ckL es c xs | _ => false)
  | .ors es, c, e => (match e with | .BoolOp .Or xs _ => !xs.isEmpty && ckL es c xs | _ => false)
  | .not a, c, e => (match e with | .UnaryOp .Not x _ => ckE a c x | _ => false)
  | .ite d a b, c, e => (match e with | .IfExp x y z _ => ckE d c x && (ckE a c y && ckE b c z) | _ => false)
  | .slice a lo hi, c, e => (match e with
    | .Subscript x (.Slice l h none _) _ => ckE a c x && ((match l with | none => isNil lo | some y => !isNil lo && ckE lo c y) && (match h with | none => isNil hi | some y => !isNil hi && ckE hi c y))
    | _ => false)
  | .dget o k d, c, e => (match e with | .Call (.Attribute y a apos) [u, v] [] pos => decide (a = "get") && ((apos.endLine == pos.line) && (notSup y && (!isStar u && (!isStar v && (ckE o c y && (ckE k c u && ckE d c v)))))) | _ => false)
  | .dget1 o k, c, e => (match e with | .Call (.Attribute y a apos) [u] [] pos => decide (a = "get") && ((apos.endLine == pos.line) && (notSup y && (!isStar u && (ckE o c y && ckE k c u)))) | _ => false)
  | .ix a i, c, e => (match e with | .Subscript x y _ => notSlice y && (ckE a c x && ckE i c y) | _ => false)
  | .call f es, c, e => (match e with | .Call (.Name x _) xs [] _ => gFn c f xs.length x && ckL es c xs | _ => false)
  | .blt f es, c, e => (match e with | .Call (.Name x _) xs [] _ => gBl c (bfnN f) x && ((bfnV f).isSome && (!xs.isEmpty && ckL es c xs)) | _ => false)
  | .mth m o es, c, e => (match e with
    | .Call (.Attribute y a apos) xs [] pos => (match mfnT m with | some t => decide (a = t.2.1) | none => false) && ((apos.endLine == pos.line) && (notSup y && (decide (xs.length < 10) && (ckE o c y && ckL es c xs))))
    | _ => false)
  | .isinst a t, c, e => (match e with | .Call (.Name x _) [y, .Name z _] [] _ => gBl c "isinstance" x && (gBl c (Str.ofString t) z && (tyOk t && (!isStar y && ckE a c y))) | _ => false)
  | .comp own tg it cnd elt, c, e => (match e with
    | .ListComp x [⟨g, itx, ifs, is_⟩] scope _ => decide (is_ = 0) && ((enOk it g && ckI it c itx) && (notSet itx && (blkC c.N c.sc scope own && (decide (own.map (·.2) = tg.slots) && (ckTg tg c.N (ownB (relS scope c.sc)) g &&
        ((match ifs with | [] => isNil cnd | [i] => !isNil cnd && ckE cnd { c with sc := relS scope c.sc } i | _ => false) && ckE elt { c with sc := relS scope c.sc } x))))))
    | _ => false)
  | .dcompN own tg it cnd k v, c, e => (match e with
    | .DictComp x y [⟨g, itx, ifs, is_⟩] scope _ => decide (is_ = 0) && ((enOk it g && ckI it c itx) && ((match it with | .iKeys _ => false | _ => true) && (notSet itx && (blkC c.N c.sc scope own && (decide (own.map (·.2) = tg.slots) && (ckTg tg c.N (ownB (relS scope c.sc)) g &&
        ((match ifs with | [] => isNil cnd | [i] => !isNil cnd && ckE cnd { c with sc := relS scope c.sc } i | _ => false) && (ckE k { c with sc := relS scope c.sc } x && ckE v { c with sc := relS scope c.sc } y))))))))
    | _ => false)
  | .fld f o, c, e => (match e with | .Attribute y a _ => decide (a = f) && (notSup y && ckE o c y) | _ => false)
  | .meth cn m f o es, c, e => (match e with
    | .Call (.Attribute y a apos) xs [] pos => decide (a = m) && (hasMeth c cn m f && ((c.T[f]?).isSome && ((apos.endLine == pos.line) && (notSup y && (decide (xs.length < 10) && (ckE o c y && ckL es c xs))))))
    | _ => false)
  | .make cn f es, c, e => (match e with | .Call (.Name x _) xs [] _ => decide (x = cn) && (hasInit c cn f && ((c.T[f]?).isSome && ((glB c.sc x && okN x) && ckL es c xs))) | _ => false)
  | .prop cn m f o, c, e => (match e with | .Attribute y a _ => decide (a = m) && (hasProp c cn m f && ((c.T[f]?).isSome && (notSup y && ckE o c y))) | _ => false)
  | .setdef o k d, c, e => (match e with | .Call (.Attribute y a apos) [u, v] [] pos => decide (a = "setdefault") && ((apos.endLine == pos.line) && (notSup y && (!isStar u && (!isStar v && (ckE o c y && (ckE k c u && ckE d c v)))))) | _ => false)
  | .lrng t a b, c, e => (match e with
    | .Call (.Name x _) [.Call (.Name y _) [u] [] _] [] _ => gBl c (if t then "tuple" else "list") x && (gBl c "range" y && (!isStar u && (isNil a && ckE b c u)))
    | .Call (.Name x _) [.Call (.Name y _) [u, v] [] _] [] _ => gBl c (if t then "tuple" else "list") x && (gBl c "range" y && (!isStar u && (!isStar v && (!isNil a && (ckE a c u && ckE b c v)))))
    | _ => false)
  | .tidx o a, c, e => (match e with | .Call (.Attribute y m apos) [u] [] pos => decide (m = "index") && ((apos.endLine == pos.line) && (notSup y && (!isStar u && (ckE o c y && ckE a c u)))) | _ => false)
  | .gint x i, c, e => (match e with | .Name y _ => decide (y = x) && ((glB c.sc x && okN x) && c.ks.any fun p => decide (p = (x, i))) | _ => false)
  | .gstr x i, c, e => (match e with | .Name y _ => decide (y = x) && ((glB c.sc x && okN x) && c.ss.any fun p => decide (p = (x, i))) | _ => false)
  | .gdat x u, c, e => (match e with | .Name y _ => decide (y = x) && ((glB c.sc x && okN x) && c.ds.any fun p => decide (p = (x, u))) | _ => false)
  | .dgetN o k d, c, e => (match e with | .Call (.Attribute y a apos) [u, v] [] pos => decide (a = "get") && ((apos.endLine == pos.line) && (notSup y && ((!isStar u && !isStar v) && (ckE o c y && (ckE k c u && ckE d c v))))) | _ => false)
  | .gtup x i, c, e => (match e with | .Name y _ => decide (y = x) && ((glB c.sc x && okN x) && c.ts.any fun p => decide (p = (x, i))) | _ => false)
  | .iSeq _, _, _ => false
  | .iRange _, _, _ => false
  | .iRange2 _ _, _, _ => false
  | .iEnum _, _, _ => false
  | .iZip _ _, _, _ => false
  | .iRev _, _, _ => false
  | .iKeys _, _, _ => false
def ckL : E → Ck → List Expr → Bool
  | .nil, _, xs => xs.isEmpty
  | .cons a b, c, xs => (match xs with | x :: xs => !isStar x && (ckE a c x && ckL b c xs) | [] => false)
  | _, _, _ => false
def ckI : E → Ck → Expr → Bool
  | .iSeq a, c, x => ckE a c x
  | .iRange a, c, e => (match e with | .Call (.Name x _) [y] [] _ => gBl c "range" x && (!isStar y && ckE a c y) | _ => false)
  | .iRange2 a b, c, e => (match e with | .Call (.Name x _) [y, z] [] _ => gBl c "range" x && (!isStar y && (!isStar z && (ckE a c y && ckE b c z))) | _ => false)
  | .iRev a, c, e => (match e with | .Call (.Name x _) [y] [] _ => gBl c "reversed" x && (!isStar y && ckE a c y) | _ => false)
  | .iZip a b, c, e => (match e with | .Call (.Name x _) [y, z] [] _ => gBl c "zip" x && (!isStar y && (!isStar z && (ckE a c y && ckE b c z))) | _ => false)
  | .iEnum a, c, e => (match e with | .Call (.Name x _) [y] [] _ => gBl c "enumerate" x && (!isStar y && ckE a c y) | _ => false)
  | .iKeys a, c, e => (match e with | .Name x _ => (match a with | .var i => varB c i x | _ => false) | _ => false)
  | _, _, _ => false
end

/-- what is known of a class -/
structure ClsK (K : Fg) (mg : Str → Option Value) (fa : Nat → Addr) (cd : Cd) : Prop where
  cls : Cls K (cad K cd.name)
  flds : ∀ f ∈ cd.flds, NoAttr K (cad K cd.name) f
  mets : ∀ p ∈ cd.mets, Meth K (cad K cd.name) p.1 (fa p.2)
  prps : ∀ p ∈ cd.prps, ∃ pa, PropOf K (cad K cd.name) p.1 pa (fa p.2)
  init : ∀ i, cd.init = some i → Mk K (cad K cd.name) (fa i) ∧ mg cd.name = some (.ref (cad K cd.name))
/-- what stands around -/
structure Gd (X : Cx) (c : Ck) (k : Nat) (fa : Nat → Addr) (fd : Nat → FuncData) (C : CE) : Prop where
  sc : X.env.scope = c.sc
  N : X.N = c.N
  nd : c.N.Nodup
  calm : X.calm = true
  xe : X.xe = fun _ _ => False
  room : Room (k + 1) X.A
  blt : ∀ x ∈ bltNames, X.mg x = none
  fns : ∀ i d, c.T[i]? = some d → (d.cls = none → X.mg d.name = some (.ref (fa i))) ∧ PySem.W.keepIn (kwX X) (.ref (fa i)) = true ∧ Binds (kwX X) (fd i) d.ps [] ∧ FnOk X.prog X.w (kwX X) X.mg X.base CX0 k (fa i) (fd i) d.ps (spOf (kwX X) (C i))
  clss : ∀ cd ∈ c.cs, ClsK (kwX X) X.mg fa cd
  kints : ∀ p ∈ c.ks, ∃ t, X.mg p.1 = some (.int p.2 t)
  kstrs : ∀ p ∈ c.ss, ∃ t, X.mg p.1 = some (.str p.2 t)
  ktups : ∀ p ∈ c.ts, ∃ a, X.mg p.1 = some (.ref a) ∧ KTp (kwX X) a (p.2.map V.int)
  kdats : ∀ p ∈ c.ds, ∃ z v, X.mg p.1 = some z ∧ RelV v z ∧ ∀ H, Rel (kwX X) H v p.2
section
variable {X : Cx} {c : Ck} {k : Nat} {fa : Nat → Addr} {fd : Nat → FuncData} {C : CE}
theorem Gd.blk (G : Gd X c k fa fd C) (scope : Scope) (s : Shared) (H : Hp) (A : Addr) (cl : List (Str × Addr)) (fp : List Addr) : Gd (Blk X scope s H A cl fp) { c with sc := relS scope c.sc } k fa fd C :=
  ⟨by rw [← G.sc]; rfl, G.N, G.nd, G.calm, rfl, G.room, G.blt, G.fns, G.clss, G.kints, G.kstrs, G.ktups, G.kdats⟩
theorem Gd.room0 (G : Gd X c k fa fd C) : Room k X.A := G.room.mono (Nat.le_succ k)
theorem Gd.u65 (G : Gd X c k fa fd C) : X.A.units + 66 < cLine := by
  have h := G.room.un
  omega
theorem Gd.u66 (G : Gd X c k fa fd C) : X.A.units + 66 < cLine := by
  have h := G.room.un
  omega
theorem Gd.u1 (G : Gd X c k fa fd C) : X.A.units + 1 < cLine := by
  have h := G.room.un
  omega
theorem vis_of (G : Gd X c k fa fd C) {x : Str} (h : visB c.sc x = true) : Vis X.env.scope x := by
  rw [G.sc]
  unfold visB at h
  unfold Vis
  split at h
  · exact .inl (by assumption)
  · exact .inr (.inl (by assumption))
  · exact .inr (.inr (by assumption))
  · cases h
theorem loc_of (G : Gd X c k fa fd C) {x : Str} (h : locB c.sc x = true) : L2.Loc X.env.scope x := by
  rw [G.sc]
  unfold locB at h
  unfold L2.Loc
  split at h
  · exact .inl (by assumption)
  · exact .inr (by assumption)
  · cases h
theorem own_of (G : Gd X c k fa fd C) {x : Str} (h : ownB c.sc x = true) : X.env.scope.names.lookup x = some .local := by
  rw [G.sc]
  unfold ownB at h
  split at h
  · assumption
  · cases h
theorem gl_of (G : Gd X c k fa fd C) {x : Str} (h : glB c.sc x = true) : Gl X x := by
  show X.env.scope.names.lookup x = some .globalImplicit
  rw [G.sc]
  unfold glB at h
  split at h
  · assumption
  · cases h
theorem okN_of {x : Str} (h : okN x = true) : (x == ("__debug__" : Str)) = false ∧ (x == ("__classdict__" : Str)) = false ∧ x ≠ "__name__" := by
  unfold okN at h
  simp only [Bool.and_eq_true, Bool.not_eq_true'] at h
  exact ⟨h.1.1, h.1.2, fun e => by rw [e] at h; simp at h⟩
theorem pe_varB (G : Gd X c k fa fd C) {i : Nat} {x : Str} {pos : Pos} (h : varB c i x = true) : PE X (.Name x pos) (tVar i) := by
  unfold varB at h
  simp only [Bool.and_eq_true, decide_eq_true_eq] at h
  obtain ⟨a, b, _⟩ := okN_of h.2
  exact pe_var (by rw [G.N]; exact h.1.1) (vis_of G h.1.2) a b
theorem boot_of {f : Bfn} {v : Value} (h : bfnV f = some v) : bootBuiltins (bfnN f) = some v ∧ bfnN f ∈ bltNames := by
  cases f <;> first | (cases h; done) | (cases h; exact ⟨by decide +kernel, by decide +kernel⟩)
/-- and, or over a row -/
def AO (X : Cx) (W : Wp) (es : List Expr) : Prop := ∀ pos, (∃ t, PW X (.BoolOp .And es pos) t ∧ EvT (kwX X) t W.ta) ∧ (∃ t, PW X (.BoolOp .Or es pos) t ∧ EvT (kwX X) t W.to) ∧ SE1 X W.va (.BoolOp .And es pos) ∧ SE1 X W.vo (.BoolOp .Or es pos)
theorem ao_one {W : Wp} {x : Expr} (h : SE X W x) : AO X ⟨fE, fT, fun _ _ _ => False, W.t, W.t, W.e, W.e, fI⟩ [x] := fun pos => by
  obtain ⟨⟨t1, p1, q1⟩, ⟨t2, p2, q2⟩⟩ := h
  exact ⟨⟨_, pw_and1 p2, q2⟩, ⟨_, pw_or1 p2, q2⟩, ⟨_, pe_one p1, q1⟩, ⟨_, pe_one p1, q1⟩⟩
theorem ao_cons {W V : Wp} {x y : Expr} {es : List Expr} (h : SE X W x) (hr : AO X V (y :: es)) :
    AO X ⟨fE, fT, fun _ _ _ => False, fun σ M Q => W.t σ M fun c M1 => if c = true then V.ta σ M1 Q else Q false M1, fun σ M Q => W.t σ M fun c M1 => if c = true then Q true M1 else V.to σ M1 Q,
      fun σ M Q => bW W.e σ M fun c M1 => if c = true then V.va σ M1 Q else Q (.bl false) M1, fun σ M Q => bW W.e σ M fun c M1 => if c = true then Q (.bl true) M1 else V.vo σ M1 Q, fI⟩ (x :: y :: es) := fun pos => by
  obtain ⟨⟨t1, p1, q1⟩, ⟨t2, p2, q2⟩⟩ := h
  obtain ⟨⟨ta, pa, qa⟩, ⟨tb, pb, qb⟩, ⟨tc, pc, qc⟩, ⟨td, pd, qd⟩⟩ := hr pos
  refine ⟨⟨_, pw_and p2 pa, fun σ H σu M Qu Q rs S hf c => ?_⟩, ⟨_, pw_or p2 pb, fun σ H σu M Qu Q rs S hf c => ?_⟩, ⟨_, pe_and p1 pc, fun σ H σu M Qu Q rs S hf c => ?_⟩, ⟨_, pe_or p1 pd, fun σ H σu M Qu Q rs S hf c => ?_⟩⟩
  · refine q2 σ H σu M _ _ rs S hf fun b H1 M1 st S1 hq => ?_
    cases b with
    | true => exact qa σ H1 σu M1 _ _ (rs.stp S st) S1 hq (c.tr S st)
    | false => exact c _ _ _ st S1 hq
  · refine q2 σ H σu M _ _ rs S hf fun b H1 M1 st S1 hq => ?_
    cases b with
    | true => exact c _ _ _ st S1 hq
    | false => exact qb σ H1 σu M1 _ _ (rs.stp S st) S1 hq (c.tr S st)
  · refine q1 σ H σu M _ _ rs S hf fun v H1 u M1 st S1 r hq => ?_
    obtain ⟨b, rfl, hq⟩ := hq
    cases r
    refine ⟨b, rfl, ?_⟩
    cases b with
    | true => exact qc σ H1 σu M1 _ _ (rs.stp S st) S1 hq (c.tr S st)
    | false => exact c _ _ _ _ st S1 (.bl _) hq
  · refine q1 σ H σu M _ _ rs S hf fun v H1 u M1 st S1 r hq => ?_
    obtain ⟨b, rfl, hq⟩ := hq
    cases r
    refine ⟨b, rfl, ?_⟩
    cases b with
    | true => exact c _ _ _ _ st S1 (.bl _) hq
    | false => exact qd σ H1 σu M1 _ _ (rs.stp S st) S1 hq (c.tr S st)
theorem sg_of (G : Gd X c k fa fd C) {tg : Tg} {e : Expr} (h : ckTg tg c.N (ownB c.sc) e = true) : SG X e tg := by
  unfold ckTg at h
  split at h
  · split at h
    · rw [Bool.and_eq_true] at h
      have o := own_of G h.2
      exact sg_one (by rw [G.N]; exact G.nd) (by rw [G.N]; exact of_decide_eq_true h.1) (.inl o) (.inr o)
    · cases h
  · split at h
    · exact sg_many G.calm (by rw [G.N]; exact G.nd) (ok := ownB c.sc) (fun x hx => ⟨.inl (own_of G hx), .inr (own_of G hx)⟩) (by rw [G.N]; exact h)
    · cases h
  · cases h
theorem sg_ofF (G : Gd X c k fa fd C) (hf : ∀ x, X.fn x = true) {tg : Tg} {e : Expr} (h : ckTg tg c.N (locB c.sc) e = true) : SG X e tg := by
  unfold ckTg at h
  split at h
  · split at h
    · rw [Bool.and_eq_true] at h
      exact sg_one (by rw [G.N]; exact G.nd) (by rw [G.N]; exact of_decide_eq_true h.1) (loc_of G h.2) (.inl (hf _))
    · cases h
  · split at h
    · exact sg_many G.calm (by rw [G.N]; exact G.nd) (ok := locB c.sc) (fun x hx => ⟨loc_of G hx, .inl (hf _)⟩) (by rw [G.N]; exact h)
    · cases h
  · cases h
end
def SndE (e : E) : Prop := ∀ (X : Cx) (c : Ck) (k : Nat) (fa : Nat → Addr) (fd : Nat → FuncData) (C : CE), Gd X c k fa fd C → ∀ x, ckE e c x = true → SE X (w C e) x
def SndL (e : E) : Prop := ∀ (X : Cx) (c : Ck) (k : Nat) (fa : Nat → Addr) (fd : Nat → FuncData) (C : CE), Gd X c k fa fd C → ∀ xs, ckL e c xs = true → SA X (w C e).l xs ∧ xs.all (fun e => !isStar e) = true ∧ (xs ≠ [] → AO X (w C e) xs) ∧ (xs = [] → e = .nil) ∧ SEs X (w C e).l xs
def SndI (e : E) : Prop := ∀ (X : Cx) (c : Ck) (k : Nat) (fa : Nat → Addr) (fd : Nat → FuncData) (C : CE), Gd X c k fa fd C → ∀ x tg, ckI e c x = true → enOk e tg = true → (SI X tg x (w C e).i) ∨ ∃ i, e = .iKeys (.var i) ∧ PE X x (tVar i)
theorem noE {e : E} (h : ∀ c x, ckE e c x = false) : SndE e := fun X c k fa fd C G x q => by rw [h c x] at q; cases q
theorem noL {e : E} (h : ∀ c x, ckL e c x = false) : SndL e := fun X c k fa fd C G x q => by rw [h c x] at q; cases q
theorem noI {e : E} (h : ∀ c x, ckI e c x = false) : SndI e := fun X c k fa fd C G x tg q _ => by rw [h c x] at q; cases q
/-- a comprehension's parts -/
theorem compOk_of {X : Cx} {c : Ck} {k : Nat} {fa : Nat → Addr} {fd : Nat → FuncData} {C : CE} (G : Gd X c k fa fd C) {cnd elt : E} (sc : SndE cnd) (se : SndE elt) {tg : Tg} {own : List (Str × Nat)} {scope : Scope} {g e : Expr} {ifs : List Expr}
    (hb : blkC c.N c.sc scope own = true) (ho : own.map (·.2) = tg.slots) (ht : ckTg tg c.N (ownB (relS scope c.sc)) g = true)
    (hi : (match ifs with | [] => isNil cnd | [i] => !isNil cnd && ckE cnd { c with sc := relS scope c.sc } i | _ => false) = true) (he : ckE elt { c with sc := relS scope c.sc } e = true) :
    CompOk X g e ifs scope own tg (if isNil cnd = true then fun _ M Q => Q true M else (w C cnd).t) (w C elt).e := by
  refine ⟨G.calm, by rw [G.N]; exact G.nd, ?_, ho, fun s H A cl fp => sg_of (G.blk scope s H A cl fp) ht, ?_, fun s H A cl fp => (se _ _ k fa fd C (G.blk scope s H A cl fp) e he).1⟩
  · rw [G.N, G.sc]
    exact blkOk_by hb
  · split at hi
    · left
      exact ⟨rfl, by rw [if_pos hi]⟩
    · right
      rw [Bool.and_eq_true] at hi
      refine ⟨_, rfl, fun s H A cl fp => ?_⟩
      rw [if_neg (by simpa using hi.1)]
      exact (sc _ _ k fa fd C (G.blk scope s H A cl fp) _ hi.2).2
    · cases hi
theorem gBl_of {X : Cx} {c : Ck} {k : Nat} {fa : Nat → Addr} {fd : Nat → FuncData} {C : CE} (G : Gd X c k fa fd C) {n x : Str} (h : gBl c n x = true) (hn : n ∈ bltNames) : x = n ∧ Gl X x ∧ X.mg x = none ∧ (x == ("__debug__" : Str)) = false ∧ x ≠ "__name__" := by
  unfold gBl at h
  simp only [Bool.and_eq_true, decide_eq_true_eq] at h
  obtain ⟨e, h1, h2⟩ := h
  obtain ⟨a, _, b⟩ := okN_of h2
  exact ⟨e, gl_of G h1, by rw [e]; exact G.blt n hn, a, b⟩
theorem sound (e : E) : SndE e ∧ SndL e ∧ SndI e := by
  induction e with
  | var i =>
    refine ⟨fun X c k fa fd C G x h => ?_, noL fun _ _ => rfl, noI fun _ _ => rfl⟩
    unfold ckE at h
    split at h <;> first | (cases h; done) | skip
    refine .ofE rfl ⟨_, pe_varB G h, ?_⟩
    intro σ H σu M Qu Q rs S ⟨u, e, q⟩ c
    obtain ⟨v, e1, r⟩ := rs.2 i u e
    exact ⟨v, e1, c.at_ S r q⟩
  | int i =>
    refine ⟨fun X c k fa fd C G x h => ?_, noL fun _ _ => rfl, noI fun _ _ => rfl⟩
    unfold ckE at h
    split at h <;> first | (cases h; done) | skip
    obtain rfl : i = _ := of_decide_eq_true h
    exact .ofE rfl se_int
  | str i =>
    refine ⟨fun X c k fa fd C G x h => ?_, noL fun _ _ => rfl, noI fun _ _ => rfl⟩
    unfold ckE at h
    split at h <;> first | (cases h; done) | skip
    obtain rfl : i = _ := of_decide_eq_true h
    exact .ofE rfl se_str
  | bl i =>
    refine ⟨fun X c k fa fd C G x h => ?_, noL fun _ _ => rfl, noI fun _ _ => rfl⟩
    unfold ckE at h
    split at h <;> first | (cases h; done) | skip
    obtain rfl : i = _ := of_decide_eq_true h
    exact .ofE rfl se_bl
  | non =>
    refine ⟨fun X c k fa fd C G x h => ?_, noL fun _ _ => rfl, noI fun _ _ => rfl⟩
    unfold ckE at h
    split at h <;> first | (cases h; done) | skip
    exact .ofE rfl se_non
  | nil =>
    refine ⟨noE fun _ _ => rfl, fun X c k fa fd C G xs h => ?_, noI fun _ _ => rfl⟩
    cases xs with
    | nil => exact ⟨sa_nil, rfl, fun z => absurd rfl z, fun _ => rfl, .nil⟩
    | cons _ _ => cases h
  | cons a b iha ihb =>
    refine ⟨noE fun _ _ => rfl, fun X c k fa fd C G xs h => ?_, noI fun _ _ => rfl⟩
    cases xs with
    | nil => cases h
    | cons x xs =>
      have h : (!isStar x && (ckE a c x && ckL b c xs)) = true := h
      rw [Bool.and_eq_true, Bool.and_eq_true] at h
      obtain ⟨h1, h2, h3⟩ := h
      have h1 : isStar x = false := by simpa using h1
      have sa := iha.1 X c k fa fd C G x h2
      obtain ⟨sb, hs, ao, hn, se⟩ := ihb.2.1 X c k fa fd C G xs h3
      refine ⟨sa_cons h1 sa.1 sb, by rw [List.all_cons, h1, hs]; rfl, fun _ => ?_, (fun z => by cases z), .cons sa.1 se⟩
      cases xs with
      | nil =>
        have e := hn rfl
        subst e
        exact ao_one sa
      | cons y ys =>
        have hb : isNil b = false := by
          cases b <;> first | rfl | (cases h3; done)
        have hn : ¬ isNil b = true := by rw [hb]; decide
        have e1 : (w C (.cons a b)).ta = fun σ M Q => (w C a).t σ M fun c M1 => if c = true then (w C b).ta σ M1 Q else Q false M1 := if_neg hn
        have e2 : (w C (.cons a b)).to = fun σ M Q => (w C a).t σ M fun c M1 => if c = true then Q true M1 else (w C b).to σ M1 Q := if_neg hn
        have e3 : (w C (.cons a b)).va = fun σ M Q => bW (w C a).e σ M fun c M1 => if c = true then (w C b).va σ M1 Q else Q (.bl false) M1 := if_neg hn
        have e4 : (w C (.cons a b)).vo = fun σ M Q => bW (w C a).e σ M fun c M1 => if c = true then Q (.bl true) M1 else (w C b).vo σ M1 Q := if_neg hn
        have q := ao_cons sa (ao (by simp))
        intro pos
        rw [e1, e2, e3, e4]
        exact q pos
  | tup es ih =>
    refine ⟨fun X c k fa fd C G x h => ?_, noL fun _ _ => rfl, noI fun _ _ => rfl⟩
    unfold ckE at h
    split at h <;> first | (cases h; done) | skip
    exact .ofE rfl (se_tup (ih.2.1 X c k fa fd C G _ h).1)
  | dtup es ih =>
    refine ⟨fun X c k fa fd C G x h => ?_, noL fun _ _ => rfl, noI fun _ _ => rfl⟩
    unfold ckE at h
    split at h <;> first | (cases h; done) | skip
    exact .ofE rfl (se_dtup (ih.2.1 X c k fa fd C G _ h).1)
  | lst es ih =>
    refine ⟨fun X c k fa fd C G x h => ?_, noL fun _ _ => rfl, noI fun _ _ => rfl⟩
    unfold ckE at h
    split at h <;> first | (cases h; done) | skip
    exact .ofE rfl (se_lst (ih.2.1 X c k fa fd C G _ h).1)
  | ddisp es ih =>
    refine ⟨fun X c k fa fd C G x h => ?_, noL fun _ _ => rfl, noI fun _ _ => rfl⟩
    unfold ckE at h
    split at h <;> first | (cases h; done) | skip
    rw [Bool.and_eq_true, Bool.and_eq_true, Bool.and_eq_true, Bool.and_eq_true] at h
    obtain ⟨h1, h2, h3, h4, h5⟩ := h
    have hne := h3
    exact .ofE rfl (se_ddisp (sps_of (ih.2.1 X c k fa fd C G _ h5).2.2.2.2 h1 (of_decide_eq_true h2)) h1 (of_decide_eq_true h2) (by intro z; rw [z] at hne; cases hne) (of_decide_eq_true h4))
  | ddispN a b iha ihb =>
    refine ⟨fun X c k fa fd C G x h => ?_, noL fun _ _ => rfl, noI fun _ _ => rfl⟩
    unfold ckE at h
    split at h <;> first | (cases h; done) | skip
    rw [Bool.and_eq_true] at h
    exact .ofE rfl (se_ddispN G.u66 (iha.1 X c k fa fd C G _ h.1).1 (ihb.1 X c k fa fd C G _ h.2).1)
  | dnewN =>
    refine ⟨fun X c k fa fd C G x h => ?_, noL fun _ _ => rfl, noI fun _ _ => rfl⟩
    unfold ckE at h
    split at h <;> first | (cases h; done) | skip
    exact .ofE rfl se_dnewN
  | dnew t =>
    refine ⟨fun X c k fa fd C G x h => ?_, noL fun _ _ => rfl, noI fun _ _ => rfl⟩
    unfold ckE at h
    split at h <;> first | (cases h; done) | skip
    exact .ofE rfl se_dnew
  | bin op a b iha ihb =>
    refine ⟨fun X c k fa fd C G x h => ?_, noL fun _ _ => rfl, noI fun _ _ => rfl⟩
    unfold ckE at h
    split at h <;> first | (cases h; done) | skip
    simp only [Bool.and_eq_true, decide_eq_true_eq] at h
    obtain ⟨rfl, h1, h2⟩ := h
    exact .ofE rfl (se_bin (iha.1 X c k fa fd C G _ h1).1 (ihb.1 X c k fa fd C G _ h2).1)
  | neg a ih =>
    refine ⟨fun X c k fa fd C G x h => ?_, noL fun _ _ => rfl, noI fun _ _ => rfl⟩
    unfold ckE at h
    split at h <;> first | (cases h; done) | skip
    exact .ofE rfl (se_neg (ih.1 X c k fa fd C G _ h).1)
  | cmp op a b iha ihb =>
    refine ⟨fun X c k fa fd C G x h => ?_, noL fun _ _ => rfl, noI fun _ _ => rfl⟩
    unfold ckE at h
    split at h <;> first | (cases h; done) | skip
    simp only [Bool.and_eq_true, decide_eq_true_eq, Bool.not_eq_true'] at h
    obtain ⟨rfl, h0, h1, h2⟩ := h
    exact se_cmp G.u65 (iha.1 X c k fa fd C G _ h1).1 (ihb.1 X c k fa fd C G _ h2).1 h0
  | chain o1 o2 a b d iha ihb ihd =>
    refine ⟨fun X c k fa fd C G x h => ?_, noL fun _ _ => rfl, noI fun _ _ => rfl⟩
    unfold ckE at h
    split at h <;> first | (cases h; done) | skip
    simp only [Bool.and_eq_true, decide_eq_true_eq, Bool.not_eq_true'] at h
    obtain ⟨rfl, rfl, h0, h1, h2, h3⟩ := h
    exact se_chain G.u65 (iha.1 X c k fa fd C G _ h1).1 (ihb.1 X c k fa fd C G _ h2).1 (ihd.1 X c k fa fd C G _ h3).1 h0
  | isN a ih =>
    refine ⟨fun X c k fa fd C G x h => ?_, noL fun _ _ => rfl, noI fun _ _ => rfl⟩
    unfold ckE at h
    split at h <;> first | (cases h; done) | skip
    exact se_isN (ih.1 X c k fa fd C G _ h).1
  | notN a ih =>
    refine ⟨fun X c k fa fd C G x h => ?_, noL fun _ _ => rfl, noI fun _ _ => rfl⟩
    unfold ckE at h
    split at h <;> first | (cases h; done) | skip
    exact se_notN (ih.1 X c k fa fd C G _ h).1
  | isB neg b a ih =>
    refine ⟨fun X c k fa fd C G x h => ?_, noL fun _ _ => rfl, noI fun _ _ => rfl⟩
    unfold ckE at h
    split at h <;> first | (cases h; done) | skip
    simp only [Bool.and_eq_true, decide_eq_true_eq] at h
    obtain ⟨rfl, rfl, h1⟩ := h
    exact se_isB (ih.1 X c k fa fd C G _ h1).1
  | ands es ih =>
    refine ⟨fun X c k fa fd C G x h => ?_, noL fun _ _ => rfl, noI fun _ _ => rfl⟩
    unfold ckE at h
    split at h <;> first | (cases h; done) | skip
    simp only [Bool.and_eq_true, Bool.not_eq_true'] at h
    obtain ⟨h0, h1⟩ := h
    obtain ⟨⟨t, p, q⟩, _, v, _⟩ := (ih.2.1 X c k fa fd C G _ h1).2.2.1 (by intro z; rw [z] at h0; cases h0) _
    exact ⟨v, ⟨_, p.pt, q⟩⟩
  | ors es ih =>
    refine ⟨fun X c k fa fd C G x h => ?_, noL fun _ _ => rfl, noI fun _ _ => rfl⟩
    unfold ckE at h
    split at h <;> first | (cases h; done) | skip
    simp only [Bool.and_eq_true, Bool.not_eq_true'] at h
    obtain ⟨h0, h1⟩ := h
    obtain ⟨_, ⟨t, p, q⟩, _, v⟩ := (ih.2.1 X c k fa fd C G _ h1).2.2.1 (by intro z; rw [z] at h0; cases h0) _
    exact ⟨v, ⟨_, p.pt, q⟩⟩
  | not a ih =>
    refine ⟨fun X c k fa fd C G x h => ?_, noL fun _ _ => rfl, noI fun _ _ => rfl⟩
    unfold ckE at h
    split at h <;> first | (cases h; done) | skip
    exact se_not (ih.1 X c k fa fd C G _ h)
  | ite d a b ihd iha ihb =>
    refine ⟨fun X c k fa fd C G x h => ?_, noL fun _ _ => rfl, noI fun _ _ => rfl⟩
    unfold ckE at h
    split at h <;> first | (cases h; done) | skip
    simp only [Bool.and_eq_true] at h
    obtain ⟨h1, h2, h3⟩ := h
    exact ⟨se_ite (ihd.1 X c k fa fd C G _ h1).2 (iha.1 X c k fa fd C G _ h2).1 (ihb.1 X c k fa fd C G _ h3).1, ⟨fun _ _ _ => False, ⟨fun _ _ _ _ _ _ z => z.elim⟩, fun _ _ _ _ _ _ _ _ z _ => z⟩⟩
  | dget o k d iho ihk ihd =>
    refine ⟨fun X c kk fa fd C G x h => ?_, noL fun _ _ => rfl, noI fun _ _ => rfl⟩
    unfold ckE at h
    split at h <;> first | (cases h; done) | skip
    simp only [Bool.and_eq_true, decide_eq_true_eq, Bool.not_eq_true'] at h
    obtain ⟨rfl, h1, h2, h3, h4, h5, h6, h7⟩ := h
    exact .ofE rfl (se_dget G.u66 h3 h4 h1 h2 (iho.1 X c kk fa fd C G _ h5).1 (ihk.1 X c kk fa fd C G _ h6).1 (ihd.1 X c kk fa fd C G _ h7).1)
  | dget1 o k iho ihk =>
    refine ⟨fun X c kk fa fd C G x h => ?_, noL fun _ _ => rfl, noI fun _ _ => rfl⟩
    unfold ckE at h
    split at h <;> first | (cases h; done) | skip
    simp only [Bool.and_eq_true, decide_eq_true_eq, Bool.not_eq_true'] at h
    obtain ⟨rfl, h1, h2, h3, h5, h6⟩ := h
    exact .ofE rfl (se_dget1 G.u66 h3 h1 h2 (iho.1 X c kk fa fd C G _ h5).1 (ihk.1 X c kk fa fd C G _ h6).1)
  | ix a i iha ihi =>
    refine ⟨fun X c k fa fd C G x h => ?_, noL fun _ _ => rfl, noI fun _ _ => rfl⟩
    unfold ckE at h
    split at h <;> first | (cases h; done) | skip
    simp only [Bool.and_eq_true] at h
    obtain ⟨h0, h1, h2⟩ := h
    exact .ofE rfl (se_ix G.u66 h0 (iha.1 X c k fa fd C G _ h1).1 (ihi.1 X c k fa fd C G _ h2).1)
  | slice a lo hi iha ihl ihh =>
    refine ⟨fun X c k fa fd C G x h => ?_, noL fun _ _ => rfl, noI fun _ _ => rfl⟩
    unfold ckE at h
    split at h <;> first | (cases h; done) | skip
    rw [Bool.and_eq_true, Bool.and_eq_true] at h
    obtain ⟨h1, h2, h3⟩ := h
    have part : ∀ {e : E} {l : Option Expr}, SndE e → (match l with | none => isNil e | some y => !isNil e && ckE e c y) = true → SO X (partW e (w C e).e) l := fun {e l} s h => by
      cases l with
      | none =>
        have h : isNil e = true := h
        have e2 : partW e (w C e).e = fun _ M Q => Q none M := by
          unfold partW
          funext σ M Q
          rw [if_pos h]
        rw [e2]
        exact so_none
      | some y =>
        have h : (!isNil e && ckE e c y) = true := h
        rw [Bool.and_eq_true] at h
        have e2 : partW e (w C e).e = fun σ M Q => (w C e).e σ M fun x M1 => ∃ i, x = .int i ∧ Q (some i) M1 := by
          unfold partW
          funext σ M Q
          rw [if_neg (by simpa using h.1)]
        rw [e2]
        exact so_some (s X c k fa fd C G _ h.2).1
    exact .ofE rfl (se_slice (iha.1 X c k fa fd C G _ h1).1 (part ihl.1 h2) (part ihh.1 h3))
  | call f es ih =>
    refine ⟨fun X c k fa fd C G x h => ?_, noL fun _ _ => rfl, noI fun _ _ => rfl⟩
    unfold ckE at h
    split at h <;> first | (cases h; done) | skip
    rename_i e x p xs pos
    rw [Bool.and_eq_true] at h
    obtain ⟨h1, h2⟩ := h
    unfold gFn at h1
    rw [Bool.and_eq_true, Bool.and_eq_true] at h1
    obtain ⟨h3, h4, h5⟩ := h1
    obtain ⟨o1, _, _⟩ := okN_of h5
    cases hd : c.T[f]? with
    | none => rw [hd] at h3; cases h3
    | some d =>
      rw [hd] at h3
      simp only [Bool.and_eq_true, decide_eq_true_eq] at h3
      obtain ⟨hcl, rfl, h3⟩ := h3
      obtain ⟨g1, g2, g3, g4⟩ := G.fns f d hd
      have g1 := g1 hcl
      obtain ⟨sa, ns, _, hn, _⟩ := ih.2.1 X c k fa fd C G _ h2
      cases xs with
      | nil =>
        have e := hn rfl
        subst e
        exact .ofE rfl (se_call0 g4 G.room0 (gl_of G h4) g1 g2 g3 o1)
      | cons y ys => exact .ofE rfl (se_call g4 G.room0 (gl_of G h4) g1 g2 g3 o1 ns sa)
  | blt f es ih =>
    refine ⟨fun X c k fa fd C G x h => ?_, noL fun _ _ => rfl, noI fun _ _ => rfl⟩
    unfold ckE at h
    split at h <;> first | (cases h; done) | skip
    rename_i e x p xs pos
    rw [Bool.and_eq_true, Bool.and_eq_true, Bool.and_eq_true] at h
    obtain ⟨h1, h2, h3, h4⟩ := h
    obtain ⟨v, hv⟩ := Option.isSome_iff_exists.mp h2
    obtain ⟨b1, b2⟩ := boot_of hv
    obtain ⟨e1, e2, e3, e4, e5⟩ := gBl_of G h1 b2
    obtain ⟨sa, ns, _, hn, _⟩ := ih.2.1 X c k fa fd C G _ h4
    cases xs with
    | nil => cases h3
    | cons y ys => exact .ofE rfl (se_blt G.calm G.u66 hv e2 e3 (by rw [e1]; exact b1) e5 e4 ns sa)
  | mth m o es iho ih =>
    refine ⟨fun X c k fa fd C G x h => ?_, noL fun _ _ => rfl, noI fun _ _ => rfl⟩
    unfold ckE at h
    split at h <;> first | (cases h; done) | skip
    rename_i e y a apos xs pos
    rw [Bool.and_eq_true, Bool.and_eq_true, Bool.and_eq_true, Bool.and_eq_true, Bool.and_eq_true] at h
    obtain ⟨h1, h2, h3, h4, h5, h6⟩ := h
    cases hm : mfnT m with
    | none => rw [hm] at h1; cases h1
    | some t =>
      rw [hm] at h1
      obtain ⟨T, n, id⟩ := t
      obtain rfl : a = n := of_decide_eq_true h1
      obtain ⟨sa, ns, _, hn, _⟩ := ih.2.1 X c k fa fd C G _ h6
      exact .ofE rfl (se_mth G.u66 hm ns (of_decide_eq_true h4) h2 h3 (iho.1 X c k fa fd C G _ h5).1 sa fun z => by rw [hn z]; rfl)
  | isinst a t ih =>
    refine ⟨fun X c k fa fd C G x h => ?_, noL fun _ _ => rfl, noI fun _ _ => rfl⟩
    unfold ckE at h
    split at h <;> first | (cases h; done) | skip
    rw [Bool.and_eq_true, Bool.and_eq_true, Bool.and_eq_true, Bool.and_eq_true] at h
    obtain ⟨h1, h2, h3, h4, h5⟩ := h
    obtain ⟨e1, e2, e3, e4, e5⟩ := gBl_of G h1 (by decide +kernel)
    have ht2 : Str.ofString t ∈ bltNames := by
      have h3 := h3
      unfold tyOk at h3
      simp only [Bool.or_eq_true, beq_iff_eq] at h3
      rcases h3 with (((h | h) | h) | h) | h <;> subst h <;> decide +kernel
    obtain ⟨f1, f2, f3, f4, f5⟩ := gBl_of G h2 ht2
    exact se_isinst h3 e1 f1 e2 e3 f2 f3 (by simpa using h4) (ih.1 X c k fa fd C G _ h5).1
  | comp own tg it cnd elt ih1 ih2 ih3 =>
    refine ⟨fun X c k fa fd C G x h => ?_, noL fun _ _ => rfl, noI fun _ _ => rfl⟩
    unfold ckE at h
    split at h <;> first | (cases h; done) | skip
    rename_i e x g itx ifs is_ scope pos
    rw [Bool.and_eq_true, Bool.and_eq_true, Bool.and_eq_true, Bool.and_eq_true, Bool.and_eq_true, Bool.and_eq_true, Bool.and_eq_true, Bool.and_eq_true] at h
    obtain ⟨h1, ⟨hen, h2⟩, h3, h4, h5, h6, h7, h8⟩ := h
    obtain rfl : is_ = 0 := of_decide_eq_true h1
    have co := compOk_of G ih2.1 ih3.1 h4 (of_decide_eq_true h5) h6 h7 h8
    rcases ih1.2.2 X c k fa fd C G itx g h2 hen with hi | ⟨i, rfl, hi⟩
    · exact .ofE rfl (se_comp hi co h3)
    · exact .ofE rfl (se_compK hi co h3)
  | dcompN own tg it cnd ky vl ih1 ih2 ih3 ih4 =>
    refine ⟨fun X c k fa fd C G x h => ?_, noL fun _ _ => rfl, noI fun _ _ => rfl⟩
    unfold ckE at h
    split at h <;> first | (cases h; done) | skip
    rename_i e x y g itx ifs is_ scope pos
    rw [Bool.and_eq_true, Bool.and_eq_true, Bool.and_eq_true, Bool.and_eq_true, Bool.and_eq_true, Bool.and_eq_true, Bool.and_eq_true, Bool.and_eq_true, Bool.and_eq_true, Bool.and_eq_true] at h
    obtain ⟨h1, ⟨hen, h2⟩, hnk, h3, h4, h5, h6, h7, h8, h9⟩ := h
    obtain rfl : is_ = 0 := of_decide_eq_true h1
    have co := compOk_of G ih2.1 ih3.1 h4 (of_decide_eq_true h5) h6 h7 h8
    have co2 := compOk_of G ih2.1 ih4.1 h4 (of_decide_eq_true h5) h6 h7 h9
    rcases ih1.2.2 X c k fa fd C G itx g h2 hen with hi | ⟨i, rfl, hi⟩
    · exact .ofE rfl (se_dcompN G.u66 hi co co2 h3)
    · cases hnk
  | fld f o ih =>
    refine ⟨fun X c k fa fd C G x h => ?_, noL fun _ _ => rfl, noI fun _ _ => rfl⟩
    unfold ckE at h
    split at h <;> first | (cases h; done) | skip
    simp only [Bool.and_eq_true, decide_eq_true_eq] at h
    obtain ⟨rfl, h1, h2⟩ := h
    exact .ofE rfl (se_fld h1 (ih.1 X c k fa fd C G _ h2).1)
  | meth cn m f o es iho ih =>
    refine ⟨fun X c k fa fd C G x h => ?_, noL fun _ _ => rfl, noI fun _ _ => rfl⟩
    unfold ckE at h
    split at h <;> first | (cases h; done) | skip
    rename_i e y a apos xs pos
    simp only [Bool.and_eq_true, decide_eq_true_eq] at h
    obtain ⟨rfl, h1, h0, h2, h3, h4, h5, h6⟩ := h
    obtain ⟨cd, hcd, hcn, p, hp, rfl⟩ : ∃ cd, cd ∈ c.cs ∧ cd.name = cn ∧ ∃ p ∈ cd.mets, p = (a, f) := by
      unfold hasMeth at h1
      obtain ⟨cd, h7, h8⟩ := List.any_eq_true.mp h1
      rw [Bool.and_eq_true] at h8
      obtain ⟨p, h9, h10⟩ := List.any_eq_true.mp h8.2
      exact ⟨cd, h7, of_decide_eq_true h8.1, p, h9, of_decide_eq_true h10⟩
    subst hcn
    obtain ⟨d, hd⟩ := Option.isSome_iff_exists.mp h0
    obtain ⟨_, g2, g3, g4⟩ := G.fns f d hd
    have ck := G.clss cd hcd
    obtain ⟨sa, ns, _, hn, _⟩ := ih.2.1 X c k fa fd C G _ h6
    exact .ofE rfl (se_meth g4 G.room0 ck.cls (ck.mets _ hp) g3 ns h4 h2 h3 (iho.1 X c k fa fd C G _ h5).1 sa fun z => by rw [hn z]; rfl)
  | make cn f es ih =>
    refine ⟨fun X c k fa fd C G x h => ?_, noL fun _ _ => rfl, noI fun _ _ => rfl⟩
    unfold ckE at h
    split at h <;> first | (cases h; done) | skip
    simp only [Bool.and_eq_true, decide_eq_true_eq] at h
    obtain ⟨rfl, h1, h0, ⟨h2, h3⟩, h4⟩ := h
    obtain ⟨cd, hcd, hcn, hi⟩ : ∃ cd, cd ∈ c.cs ∧ cd.name = _ ∧ cd.init = some f := by
      unfold hasInit at h1
      obtain ⟨cd, h7, h8⟩ := List.any_eq_true.mp h1
      rw [Bool.and_eq_true] at h8
      exact ⟨cd, h7, of_decide_eq_true h8.1, of_decide_eq_true h8.2⟩
    subst hcn
    obtain ⟨d, hd⟩ := Option.isSome_iff_exists.mp h0
    obtain ⟨_, g2, g3, g4⟩ := G.fns f d hd
    have ck := G.clss cd hcd
    obtain ⟨sa, ns, _, hn, _⟩ := ih.2.1 X c k fa fd C G _ h4
    exact .ofE rfl (se_make (ck.init f hi).1 g4 G.room (gl_of G h2) (ck.init f hi).2 ck.cls g3 (okN_of h3).1 ns sa fun z => by rw [hn z]; rfl)
  | prop cn m f o ih =>
    refine ⟨fun X c k fa fd C G x h => ?_, noL fun _ _ => rfl, noI fun _ _ => rfl⟩
    unfold ckE at h
    split at h <;> first | (cases h; done) | skip
    simp only [Bool.and_eq_true, decide_eq_true_eq] at h
    obtain ⟨rfl, h1, h0, h2, h3⟩ := h
    obtain ⟨cd, hcd, hcn, p, hp, rfl⟩ : ∃ cd, cd ∈ c.cs ∧ cd.name = cn ∧ ∃ p ∈ cd.prps, p = (_, f) := by
      unfold hasProp at h1
      obtain ⟨cd, h7, h8⟩ := List.any_eq_true.mp h1
      rw [Bool.and_eq_true] at h8
      obtain ⟨p, h9, h10⟩ := List.any_eq_true.mp h8.2
      exact ⟨cd, h7, of_decide_eq_true h8.1, p, h9, of_decide_eq_true h10⟩
    subst hcn
    obtain ⟨d, hd⟩ := Option.isSome_iff_exists.mp h0
    obtain ⟨_, g2, g3, g4⟩ := G.fns f d hd
    have ck := G.clss cd hcd
    obtain ⟨pa, hpp⟩ := ck.prps _ hp
    exact .ofE rfl (se_prop g4 G.room ck.cls hpp g3 h2 (ih.1 X c k fa fd C G _ h3).1)
  | setdef o k d iho ihk ihd =>
    refine ⟨fun X c kk fa fd C G x h => ?_, noL fun _ _ => rfl, noI fun _ _ => rfl⟩
    unfold ckE at h
    split at h <;> first | (cases h; done) | skip
    simp only [Bool.and_eq_true, decide_eq_true_eq, Bool.not_eq_true'] at h
    obtain ⟨rfl, h1, h2, h3, h4, h5, h6, h7⟩ := h
    exact .ofE rfl (se_setdef h3 h4 h1 h2 (iho.1 X c kk fa fd C G _ h5).1 (ihk.1 X c kk fa fd C G _ h6).1 (ihd.1 X c kk fa fd C G _ h7).1)
  | lrng t a b iha ihb =>
    refine ⟨fun X c k fa fd C G x h => ?_, noL fun _ _ => rfl, noI fun _ _ => rfl⟩
    have inL : ((if t then "tuple" else "list") : Str) ∈ bltNames := by cases t <;> decide +kernel
    unfold ckE at h
    split at h <;> first | (cases h; done) | skip
    · simp only [Bool.and_eq_true, Bool.not_eq_true'] at h
      obtain ⟨h1, h2, h3, h4, h5⟩ := h
      obtain ⟨e1, e2, e3, _, _⟩ := gBl_of G h1 inL
      obtain ⟨f1, f2, f3, _, _⟩ := gBl_of G h2 (by decide +kernel)
      have ep : partW a (w C a).e = fun _ M Q => Q none M := by
        unfold partW
        funext σ M Q
        rw [if_pos h4]
      refine .ofE rfl ?_
      rw [ep]
      exact se_lrng1 (t := t) G.calm e1 f1 e2 e3 f2 f3 h3 (ihb.1 X c k fa fd C G _ h5).1
    · simp only [Bool.and_eq_true, Bool.not_eq_true'] at h
      obtain ⟨h1, h2, h3, h4, h5, h6, h7⟩ := h
      obtain ⟨e1, e2, e3, _, _⟩ := gBl_of G h1 inL
      obtain ⟨f1, f2, f3, _, _⟩ := gBl_of G h2 (by decide +kernel)
      have ep : partW a (w C a).e = fun σ M Q => (w C a).e σ M fun x M1 => ∃ i, x = .int i ∧ Q (some i) M1 := by
        unfold partW
        funext σ M Q
        rw [if_neg (by rw [h5]; decide)]
      refine .ofE rfl ?_
      rw [ep]
      exact se_lrng2 (t := t) G.calm e1 f1 e2 e3 f2 f3 h3 h4 (iha.1 X c k fa fd C G _ h6).1 (ihb.1 X c k fa fd C G _ h7).1
  | tidx o a iho iha =>
    refine ⟨fun X c k fa fd C G x h => ?_, noL fun _ _ => rfl, noI fun _ _ => rfl⟩
    unfold ckE at h
    split at h <;> first | (cases h; done) | skip
    simp only [Bool.and_eq_true, decide_eq_true_eq, Bool.not_eq_true'] at h
    obtain ⟨rfl, h1, h2, h3, h4, h5⟩ := h
    exact .ofE rfl (se_tidx h3 h1 h2 (iho.1 X c k fa fd C G _ h4).1 (iha.1 X c k fa fd C G _ h5).1)
  | gint x i =>
    refine ⟨fun X c k fa fd C G x h => ?_, noL fun _ _ => rfl, noI fun _ _ => rfl⟩
    unfold ckE at h
    split at h <;> first | (cases h; done) | skip
    simp only [Bool.and_eq_true, decide_eq_true_eq] at h
    obtain ⟨rfl, ⟨h1, h2⟩, h3⟩ := h
    obtain ⟨p, hp, e⟩ := List.any_eq_true.mp h3
    have e := of_decide_eq_true e
    subst e
    obtain ⟨t, ht⟩ := G.kints _ hp
    exact .ofE rfl (se_gl (v := .int i) (gl_of G h1) ht ⟨t, rfl⟩ (fun _ => .int i) (okN_of h2).1)
  | gstr x i =>
    refine ⟨fun X c k fa fd C G x h => ?_, noL fun _ _ => rfl, noI fun _ _ => rfl⟩
    unfold ckE at h
    split at h <;> first | (cases h; done) | skip
    simp only [Bool.and_eq_true, decide_eq_true_eq] at h
    obtain ⟨rfl, ⟨h1, h2⟩, h3⟩ := h
    obtain ⟨p, hp, e⟩ := List.any_eq_true.mp h3
    have e := of_decide_eq_true e
    subst e
    obtain ⟨t, ht⟩ := G.kstrs _ hp
    exact .ofE rfl (se_gl (v := .str i) (gl_of G h1) ht ⟨t, rfl⟩ (fun _ => .str i) (okN_of h2).1)
  | gdat x i =>
    refine ⟨fun X c k fa fd C G x h => ?_, noL fun _ _ => rfl, noI fun _ _ => rfl⟩
    unfold ckE at h
    split at h <;> first | (cases h; done) | skip
    simp only [Bool.and_eq_true, decide_eq_true_eq] at h
    obtain ⟨rfl, ⟨h1, h2⟩, h3⟩ := h
    obtain ⟨p, hp, e⟩ := List.any_eq_true.mp h3
    have e := of_decide_eq_true e
    subst e
    obtain ⟨z, v, ha, hv, hk⟩ := G.kdats _ hp
    exact .ofE rfl (se_gl (v := v) (gl_of G h1) ha hv hk (okN_of h2).1)
  | dgetN o k d iho ihk ihd =>
    refine ⟨fun X c kk fa fd C G x h => ?_, noL fun _ _ => rfl, noI fun _ _ => rfl⟩
    unfold ckE at h
    split at h <;> first | (cases h; done) | skip
    simp only [Bool.and_eq_true, decide_eq_true_eq, Bool.not_eq_true'] at h
    obtain ⟨rfl, h1, h2, ⟨h3, h3'⟩, h5, h6, h7⟩ := h
    exact .ofE rfl (se_dgetN G.u66 h3 h3' h1 h2 (iho.1 X c kk fa fd C G _ h5).1 (ihk.1 X c kk fa fd C G _ h6).1 (ihd.1 X c kk fa fd C G _ h7).1)
  | gtup x i =>
    refine ⟨fun X c k fa fd C G x h => ?_, noL fun _ _ => rfl, noI fun _ _ => rfl⟩
    unfold ckE at h
    split at h <;> first | (cases h; done) | skip
    simp only [Bool.and_eq_true, decide_eq_true_eq] at h
    obtain ⟨rfl, ⟨h1, h2⟩, h3⟩ := h
    obtain ⟨p, hp, e⟩ := List.any_eq_true.mp h3
    have e := of_decide_eq_true e
    subst e
    obtain ⟨a, ha, hk⟩ := G.ktups _ hp
    exact .ofE rfl (se_gl (v := .ref a) (gl_of G h1) ha rfl (fun _ => .tup (.inr hk) (rl_ints0 i)) (okN_of h2).1)
  | iSeq a ih =>
    refine ⟨noE fun _ _ => rfl, noL fun _ _ => rfl, fun X c k fa fd C G x tg h hen => .inl ?_⟩
    exact si_seq (ih.1 X c k fa fd C G _ h).1
  | iRev a ih =>
    refine ⟨noE fun _ _ => rfl, noL fun _ _ => rfl, fun X c k fa fd C G x tg h hen => .inl ?_⟩
    unfold ckI at h
    split at h <;> first | (cases h; done) | skip
    rw [Bool.and_eq_true, Bool.and_eq_true] at h
    obtain ⟨h1, h2, h3⟩ := h
    obtain ⟨e1, e2, e3, e4, e5⟩ := gBl_of G h1 (by decide +kernel)
    exact si_rev e1 e2 e3 (by simpa using h2) (ih.1 X c k fa fd C G _ h3).1
  | iRange a ih =>
    refine ⟨noE fun _ _ => rfl, noL fun _ _ => rfl, fun X c k fa fd C G x tg h hen => .inl ?_⟩
    unfold ckI at h
    split at h <;> first | (cases h; done) | skip
    rw [Bool.and_eq_true, Bool.and_eq_true] at h
    obtain ⟨h1, h2, h3⟩ := h
    obtain ⟨e1, e2, e3, e4, e5⟩ := gBl_of G h1 (by decide +kernel)
    exact si_rng e1 e2 e3 (by simpa using h2) (ih.1 X c k fa fd C G _ h3).1
  | iRange2 a b iha ihb =>
    refine ⟨noE fun _ _ => rfl, noL fun _ _ => rfl, fun X c k fa fd C G x tg h hen => .inl ?_⟩
    unfold ckI at h
    split at h <;> first | (cases h; done) | skip
    rw [Bool.and_eq_true, Bool.and_eq_true, Bool.and_eq_true, Bool.and_eq_true] at h
    obtain ⟨h1, h2, h3, h4, h5⟩ := h
    obtain ⟨e1, e2, e3, e4, e5⟩ := gBl_of G h1 (by decide +kernel)
    exact si_rng2 e1 e2 e3 (by simpa using h2) (by simpa using h3) (iha.1 X c k fa fd C G _ h4).1 (ihb.1 X c k fa fd C G _ h5).1
  | iZip a b iha ihb =>
    refine ⟨noE fun _ _ => rfl, noL fun _ _ => rfl, fun X c k fa fd C G x tg h hen => .inl ?_⟩
    cases tg <;> first | (cases hen; done) | skip
    unfold ckI at h
    split at h <;> first | (cases h; done) | skip
    rw [Bool.and_eq_true, Bool.and_eq_true, Bool.and_eq_true, Bool.and_eq_true] at h
    obtain ⟨h1, h2, h3, h4, h5⟩ := h
    obtain ⟨e1, e2, e3, e4, e5⟩ := gBl_of G h1 (by decide +kernel)
    exact si_zip e1 e2 e3 (by simpa using h2) (by simpa using h3) (iha.1 X c k fa fd C G _ h4).1 (ihb.1 X c k fa fd C G _ h5).1
  | iEnum a ih =>
    refine ⟨noE fun _ _ => rfl, noL fun _ _ => rfl, fun X c k fa fd C G x tg h hen => .inl ?_⟩
    cases tg <;> first | (cases hen; done) | skip
    unfold ckI at h
    split at h <;> first | (cases h; done) | skip
    rw [Bool.and_eq_true, Bool.and_eq_true] at h
    obtain ⟨h1, h2, h3⟩ := h
    obtain ⟨e1, e2, e3, e4, e5⟩ := gBl_of G h1 (by decide +kernel)
    exact si_enum e1 e2 e3 (by simpa using h2) (ih.1 X c k fa fd C G _ h3).1
  | iKeys a ih =>
    refine ⟨noE fun _ _ => rfl, noL fun _ _ => rfl, fun X c k fa fd C G x tg h hen => .inr ?_⟩
    unfold ckI at h
    split at h <;> first | (cases h; done) | skip
    split at h <;> first | (cases h; done) | skip
    exact ⟨_, rfl, pe_varB G h⟩
end Pl

set_option maxHeartbeats 4000000
/-! statements and defs: the check and its worth -/
namespace Pl
open PySem L2
/-- a comprehension stored by its own rule -/
def swapB (x : Str) (p' : Pos) (v : Expr) : Bool := match v with
  | .ListComp _ _ scope vp => (p'.line == vp.line) && !(scope.names.any fun (n, k) => n == x && (k == .local || k == .cell))
  | _ => false
mutual
def ckS : S → Ck → Stmt → Bool
  | .skip, _, st => (match st with | .Pass _ => true | _ => false)
  | .seq _ _, _, _ => false
  | .asg i e, c, st => (match st with
    | .Assign [.Name x p'] v _ => decide (c.N[i]? = some x) && (locB c.sc x && (ckE e c v && (if isComp v = true then swapB x p' v else true)))
    | _ => false)
  | .asgT is e, c, st => (match st with | .Assign [.Tuple es _ _] v _ => namesB c.N (locB c.sc) is es && (notTup v && ckE e c v) | _ => false)
  | .asgU is e, c, st => (match st with | .Assign [.Tuple es _ _] v _ => namesB c.N (locB c.sc) is es && (notTup v && ckE e c v) | _ => false)
  | .par _ _ _ _, _, _ => false
  | .setF cn f o e, c, st => (match st with | .Assign [.Attribute x a _] v _ => decide (a = f) && (hasFld c cn f && (ckE e c v && ckE o c x)) | _ => false)
  | .delIx o i, c, st => (match st with | .Delete [.Subscript x y _] _ => notSlice y && (ckE o c x && ckE i c y) | _ => false)
  | .setIx o i e, c, st => (match st with | .Assign [.Subscript x y _] v _ => notSlice y && (ckE e c v && (ckE o c x && ckE i c y)) | _ => false)
  | .augV i op e, c, st => (match st with | .AugAssign (.Name x _) o v _ => decide (iopOf op = some o) && (decide (c.N[i]? = some x) && (locB c.sc x && ckE e c v)) | _ => false)
  | .augIx o i op e, c, st => (match st with | .AugAssign (.Subscript x y _) oo v _ => decide (iopOf op = some oo) && (notSlice y && (ckE o c x && (ckE i c y && ckE e c v))) | _ => false)
  | .ifs d a b, c, st => (match st with | .If x p q _ => ckE d c x && (ckB a c p && ckB b c q) | _ => false)
  | .for_ tg it b, c, st => (match st with | .For g x body [] _ => ckTg tg c.N (locB c.sc) g && ((enOk it g && ckI it c x) && (notSet x && ckB b c body)) | _ => false)
  | .whl d b, c, st => (match st with | .While x body [] _ => ckE d c x && ckB b c body | _ => false)
  | .ret e, c, st => (match st with | .Return (some x) _ => ckE e c x | _ => false)
  | .retN, _, st => (match st with | .Return none _ => true | _ => false)
  | .brk, _, st => (match st with | .Break _ => true | _ => false)
  | .cnt, _, st => (match st with | .Continue _ => true | _ => false)
  | .expr e, c, st => (match st with | .Expr x _ => !isComp x && ckE e c x | _ => false)
  | .nvr, _, _ => true
def ckB : S → Ck → List Stmt → Bool
  | .skip, _, sts => sts.isEmpty
  | .seq a b, c, sts => (match sts with | st :: r => ckS a c st && ckB b c r | [] => false)
  | .nvr, _, _ => true
  | _, _, _ => false
end
section
variable {X : Cx} {c : Ck} {k : Nat} {fa : Nat → Addr} {fd : Nat → FuncData} {C : CE}
theorem swap_of (G : Gd X c k fa fd C) {x : Str} {p' vp : Pos} {elt : Expr} {gs : List Comprehension} {scope : Scope} {l : Nat} (hk : X.env.scope.kind = .function) (hs : swapB x p' (.ListComp elt gs scope vp) = true) :
    (ownB c.sc x = true → swapsWith (.ListComp elt gs scope vp) (some (.Name x p')) l X.env = pure true) ∧ (ownB c.sc x = false → swapsWith (.ListComp elt gs scope vp) (some (.Name x p')) l X.env = pure false) := by
  unfold swapB at hs
  rw [Bool.and_eq_true] at hs
  have h2 : (scope.names.any fun (n, k) => n == x && (k == .local || k == .cell)) = false := by simpa using hs.2
  refine ⟨fun h => sw_true hk (own_of G h) hs.1 h2, fun h => ?_⟩
  have hb : X.env.blockKind = .function := by unfold Env.blockKind; rw [hk]; rfl
  have hn : (X.env.kindOf x == some .local) = false := by
    have e : X.env.kindOf x = c.sc.names.lookup x := by
      show X.env.scope.names.lookup x = _
      rw [G.sc]
    rw [e]
    unfold ownB at h
    split at h
    · cases h
    · rename_i hz
      cases q : c.sc.names.lookup x with
      | none => rfl
      | some kd => cases kd <;> first | rfl | exact absurd q hz
  unfold swapsWith
  simp only [hn, Bool.and_false, Bool.false_and]
theorem comp_parts (G : Gd X c k fa fd C) {e : E} {x : Expr} {gens : List Comprehension} {scope : Scope} {pos : Pos} (h : ckE e c (.ListComp x gens scope pos) = true) :
    ∃ own tg it fc fe g itx ifs, gens = [⟨g, itx, ifs, 0⟩] ∧ (w C e).e = compW (w C it).i tg fc fe ∧ CompOk X g x ifs scope own tg fc fe ∧ notSet itx = true ∧ (SI X g itx (w C it).i ∨ ∃ i, it = .iKeys (.var i) ∧ PE X itx (tVar i)) := by
  cases e <;> first | (unfold ckE at h; cases h; done) | (unfold ckE at h; simp at h; done) | skip
  rename_i own tg it cnd elt
  unfold ckE at h
  split at h <;> first | (cases h; done) | skip
  rename_i e2 x2 g itx ifs is_ scope2 pos2 heq
  cases heq
  rw [Bool.and_eq_true, Bool.and_eq_true, Bool.and_eq_true, Bool.and_eq_true, Bool.and_eq_true, Bool.and_eq_true, Bool.and_eq_true, Bool.and_eq_true] at h
  obtain ⟨h1, ⟨hen, h2⟩, h3, h4, h5, h6, h7, h8⟩ := h
  obtain rfl : is_ = 0 := of_decide_eq_true h1
  have co := compOk_of G (sound cnd).1 (sound elt).1 h4 (of_decide_eq_true h5) h6 h7 h8
  exact ⟨own, tg, it, _, _, g, itx, ifs, rfl, rfl, co, h3, (sound it).2.2 X c k fa fd C G itx g h2 hen⟩
end
def SndS (a : S) : Prop := ∀ (X : Cx) (c : Ck) (k : Nat) (fa : Nat → Addr) (fd : Nat → FuncData) (C : CE), Gd X c k fa fd C → (∀ x, X.fn x = true) → X.env.scope.kind = .function → ∀ st, ckS a c st = true → SS X (wS C a) st
def SndB (a : S) : Prop := ∀ (X : Cx) (c : Ck) (k : Nat) (fa : Nat → Addr) (fd : Nat → FuncData) (C : CE), Gd X c k fa fd C → (∀ x, X.fn x = true) → X.env.scope.kind = .function → ∀ sts, ckB a c sts = true → SSs X (wS C a) sts
theorem noB {a : S} (h : ∀ c x, ckB a c x = false) : SndB a := fun X c k fa fd C G hf hk x q => by rw [h c x] at q; cases q
theorem noS {a : S} (h : ∀ c x, ckS a c x = false) : SndS a := fun X c k fa fd C G hf hk x q => by rw [h c x] at q; cases q
theorem soundS (a : S) : SndS a ∧ SndB a := by
  induction a with
  | skip =>
    refine ⟨fun X c k fa fd C G hf hk st h => ?_, fun X c k fa fd C G hf hk sts h => ?_⟩
    · unfold ckS at h
      split at h <;> first | (cases h; done) | skip
      exact ss_pass
    · cases sts with
      | nil => exact sss_nil
      | cons _ _ => cases h
  | seq a b iha ihb =>
    refine ⟨noS fun _ _ => rfl, fun X c k fa fd C G hf hk sts h => ?_⟩
    cases sts with
    | nil => cases h
    | cons st r =>
      have h : (ckS a c st && ckB b c r) = true := h
      rw [Bool.and_eq_true] at h
      exact sss_cons (f := wS C a) (g := wS C b) (iha.1 X c k fa fd C G hf hk st h.1) (ihb.2 X c k fa fd C G hf hk r h.2)
  | asg i e =>
    refine ⟨fun X c k fa fd C G hf hk st h => ?_, noB fun _ _ => rfl⟩
    unfold ckS at h
    split at h <;> first | (cases h; done) | skip
    rename_i st x p' v pos
    rw [Bool.and_eq_true, Bool.and_eq_true, Bool.and_eq_true] at h
    obtain ⟨h1, h2, h3, h4⟩ := h
    have hN : X.N.Nodup := by rw [G.N]; exact G.nd
    have hi : X.N[i]? = some x := by rw [G.N]; exact of_decide_eq_true h1
    cases hc : isComp v with
    | false => exact ss_asg hN hi (loc_of G h2) (no_swap hc) (hf x) ((sound e).1 X c k fa fd C G v h3).1
    | true =>
      rw [if_pos hc] at h4
      cases v <;> first | (cases h4; done) | skip
      rename_i elt gens scope vp
      obtain ⟨s1, s2⟩ := swap_of (l := pos.line) G hk h4
      cases ho : ownB c.sc x with
      | false => exact ss_asg hN hi (loc_of G h2) (s2 ho) (hf x) ((sound e).1 X c k fa fd C G _ h3).1
      | true =>
        obtain ⟨own, tg, it, fc, fe, g, itx, ifs, rfl, ew, co, hs, hit⟩ := comp_parts G h3
        show SS X (fun D σ M => (w C e).e σ M fun x M1 => D.nx (σ.set i (some x)) M1) _
        rw [ew]
        rcases hit with hit | ⟨j, rfl, hit⟩
        · exact ss_asgC hi (own_of G ho) (s1 ho) hit co hs
        · exact ss_asgCK hi (own_of G ho) (s1 ho) hit co hs
  | asgT is e =>
    refine ⟨fun X c k fa fd C G hf hk st h => ?_, noB fun _ _ => rfl⟩
    unfold ckS at h
    split at h <;> first | (cases h; done) | skip
    rw [Bool.and_eq_true, Bool.and_eq_true] at h
    obtain ⟨h1, h2, h3⟩ := h
    exact ss_asgT G.calm (by rw [G.N]; exact G.nd) (ok := locB c.sc) (fun x hx => ⟨loc_of G hx, .inl (hf x)⟩) (by rw [G.N]; exact h1) h2 ((sound e).1 X c k fa fd C G _ h3).1
  | asgU is e =>
    refine ⟨fun X c k fa fd C G hf hk st h => ?_, noB fun _ _ => rfl⟩
    unfold ckS at h
    split at h <;> first | (cases h; done) | skip
    rw [Bool.and_eq_true, Bool.and_eq_true] at h
    obtain ⟨h1, h2, h3⟩ := h
    exact ss_asgU G.calm (by rw [G.N]; exact G.nd) (ok := locB c.sc) (fun x hx => ⟨loc_of G hx, .inl (hf x)⟩) (by rw [G.N]; exact h1) h2 ((sound e).1 X c k fa fd C G _ h3).1
  | par i j a b => exact ⟨noS fun _ _ => rfl, noB fun _ _ => rfl⟩
  | setF cn f o e =>
    refine ⟨fun X c k fa fd C G hf hk st h => ?_, noB fun _ _ => rfl⟩
    unfold ckS at h
    split at h <;> first | (cases h; done) | skip
    simp only [Bool.and_eq_true, decide_eq_true_eq] at h
    obtain ⟨rfl, h1, h2, h3⟩ := h
    obtain ⟨cd, hcd, hcn, p, hp, rfl⟩ : ∃ cd, cd ∈ c.cs ∧ cd.name = cn ∧ ∃ p ∈ cd.flds, p = _ := by
      unfold hasFld at h1
      obtain ⟨cd, h7, h8⟩ := List.any_eq_true.mp h1
      rw [Bool.and_eq_true] at h8
      obtain ⟨p, h9, h10⟩ := List.any_eq_true.mp h8.2
      exact ⟨cd, h7, of_decide_eq_true h8.1, p, h9, of_decide_eq_true h10⟩
    subst hcn
    have ck := G.clss cd hcd
    exact ss_setF ck.cls (ck.flds _ hp) ((sound e).1 X c k fa fd C G _ h2).1 ((sound o).1 X c k fa fd C G _ h3).1
  | delIx o i =>
    refine ⟨fun X c k fa fd C G hf hk st h => ?_, noB fun _ _ => rfl⟩
    unfold ckS at h
    split at h <;> first | (cases h; done) | skip
    rw [Bool.and_eq_true, Bool.and_eq_true] at h
    obtain ⟨h0, h2, h3⟩ := h
    exact ss_delIx ((sound o).1 X c k fa fd C G _ h2).1 ((sound i).1 X c k fa fd C G _ h3).1
  | setIx o i e =>
    refine ⟨fun X c k fa fd C G hf hk st h => ?_, noB fun _ _ => rfl⟩
    unfold ckS at h
    split at h <;> first | (cases h; done) | skip
    rw [Bool.and_eq_true, Bool.and_eq_true, Bool.and_eq_true] at h
    obtain ⟨h0, h1, h2, h3⟩ := h
    exact ss_setIx G.u66 ((sound e).1 X c k fa fd C G _ h1).1 ((sound o).1 X c k fa fd C G _ h2).1 ((sound i).1 X c k fa fd C G _ h3).1 h0
  | augV i op e =>
    refine ⟨fun X c k fa fd C G hf hk st h => ?_, noB fun _ _ => rfl⟩
    unfold ckS at h
    split at h <;> first | (cases h; done) | skip
    rw [Bool.and_eq_true, Bool.and_eq_true, Bool.and_eq_true] at h
    obtain ⟨h0, h1, h2, h3⟩ := h
    exact ss_augV (of_decide_eq_true h0) (by rw [G.N]; exact G.nd) (by rw [G.N]; exact of_decide_eq_true h1) (loc_of G h2) (hf _) ((sound e).1 X c k fa fd C G _ h3).1
  | augIx o i op e =>
    refine ⟨fun X c k fa fd C G hf hk st h => ?_, noB fun _ _ => rfl⟩
    unfold ckS at h
    split at h <;> first | (cases h; done) | skip
    rw [Bool.and_eq_true, Bool.and_eq_true, Bool.and_eq_true, Bool.and_eq_true] at h
    obtain ⟨h0, hs, h1, h2, h3⟩ := h
    exact ss_augIx (of_decide_eq_true h0) G.u66 ((sound o).1 X c k fa fd C G _ h1).1 ((sound i).1 X c k fa fd C G _ h2).1 ((sound e).1 X c k fa fd C G _ h3).1 hs
  | ifs d a b iha ihb =>
    refine ⟨fun X c k fa fd C G hf hk st h => ?_, noB fun _ _ => rfl⟩
    unfold ckS at h
    split at h <;> first | (cases h; done) | skip
    rw [Bool.and_eq_true, Bool.and_eq_true] at h
    obtain ⟨h1, h2, h3⟩ := h
    exact ss_if ((sound d).1 X c k fa fd C G _ h1).2 (iha.2 X c k fa fd C G hf hk _ h2) (ihb.2 X c k fa fd C G hf hk _ h3)
  | for_ tg it b ih =>
    refine ⟨fun X c k fa fd C G hf hk st h => ?_, noB fun _ _ => rfl⟩
    unfold ckS at h
    split at h <;> first | (cases h; done) | skip
    rename_i st g x body pos
    rw [Bool.and_eq_true, Bool.and_eq_true, Bool.and_eq_true, Bool.and_eq_true] at h
    obtain ⟨h1, ⟨hen, h2⟩, h3, h4⟩ := h
    have hb := ih.2 X c k fa fd C G hf hk _ h4
    rcases (sound it).2.2 X c k fa fd C G x g h2 hen with hi | ⟨i, rfl, hi⟩
    · exact ss_for G.xe G.calm hi (sg_ofF G hf h1) hb h3
    · exact ss_forK G.xe G.calm hi (sg_ofF G hf h1) hb h3
  | whl d b ih =>
    refine ⟨fun X c k fa fd C G hf hk st h => ?_, noB fun _ _ => rfl⟩
    unfold ckS at h
    split at h <;> first | (cases h; done) | skip
    rw [Bool.and_eq_true] at h
    exact ss_whl G.xe ((sound d).1 X c k fa fd C G _ h.1).2 (ih.2 X c k fa fd C G hf hk _ h.2)
  | ret e =>
    refine ⟨fun X c k fa fd C G hf hk st h => ?_, noB fun _ _ => rfl⟩
    unfold ckS at h
    split at h <;> first | (cases h; done) | skip
    exact ss_ret ((sound e).1 X c k fa fd C G _ h).1
  | retN =>
    refine ⟨fun X c k fa fd C G hf hk st h => ?_, noB fun _ _ => rfl⟩
    unfold ckS at h
    split at h <;> first | (cases h; done) | skip
    exact ss_retN
  | brk =>
    refine ⟨fun X c k fa fd C G hf hk st h => ?_, noB fun _ _ => rfl⟩
    unfold ckS at h
    split at h <;> first | (cases h; done) | skip
    exact ss_break
  | cnt =>
    refine ⟨fun X c k fa fd C G hf hk st h => ?_, noB fun _ _ => rfl⟩
    unfold ckS at h
    split at h <;> first | (cases h; done) | skip
    exact ss_cont
  | expr e =>
    refine ⟨fun X c k fa fd C G hf hk st h => ?_, noB fun _ _ => rfl⟩
    unfold ckS at h
    split at h <;> first | (cases h; done) | skip
    rw [Bool.and_eq_true] at h
    exact ss_expr (by simpa using h.1) ((sound e).1 X c k fa fd C G _ h.2).1
  | nvr => exact ⟨fun X c k fa fd C G hf hk st h => ss_nvr, fun X c k fa fd C G hf hk sts h => sss_nvr⟩
end Pl

set_option maxHeartbeats 400000
/-! the defs of a text keep their promises -/
namespace Pl
open PySem L2
def scopeB (N ps : List Str) (sc : Scope) : Bool :=
  decide (sc.kind = .function) && (!sc.isCoroutine && (!sc.isGenerator && (decide N.Nodup && (decide (N.take ps.length = ps) && ((ps.all fun x => locB sc x) && sc.names.all fun y => decide (y.2 ≠ .free))))))
theorem scope_of {N ps : List Str} {sc : Scope} (h : scopeB N ps sc = true) : FnScope N ps sc := by
  unfold scopeB at h
  simp only [Bool.and_eq_true, decide_eq_true_eq, Bool.not_eq_true', List.all_eq_true] at h
  obtain ⟨h1, h2, h3, h4, h5, h6, h7⟩ := h
  refine ⟨h1, h2, h3, h4, h5, fun x hx => ?_, fun y hy => h7 y hy⟩
  have q := h6 x hx
  unfold locB at q
  split at q
  · exact .inl (by assumption)
  · exact .inr (by assumption)
  · cases q
/-- a text: its defs, its classes, its constants -/
structure Pg where
  T : List Df
  cs : List Cd := []
  ks : List (Str × Int) := []
  ss : List (Str × Str) := []
  ts : List (Str × List Int) := []
  ds : List (Str × U) := []
def Pg.ck (G : Pg) (d : Df) (st : Stmt) : Ck := ⟨defScope st, d.N, G.T, G.cs, G.ks, G.ss, G.ts, G.ds⟩
/-- one def against its text -/
def ckF (G : Pg) (d : Df) (st : Stmt) : Bool := scopeB d.N d.ps (defScope st) && ckB d.b (G.ck d st) (defBody st)
/-- its arguments bind -/
def BindP (x q : Str) (st : Stmt) (ps : List Str) : Prop := ∀ (kV doc pm : Value) (an : Option Addr) (cdv ct : Value) (us : List Value), us.length = ps.length → bindArgs (PySem.W.fnOf x q (defArgs st) (defBody st) (defScope st) .none kV doc pm an cdv ct) ⟨us, []⟩ = pure (ps.zip us)
theorem Cs_len {T : List Df} {k i : Nat} {d : Df} {us : List U} {M : Hm} {Q : QU} (hd : T[i]? = some d) (h : Cs T k i us M Q) : us.length = d.ps.length := by
  cases k with
  | zero => exact h.elim
  | succ k =>
    obtain ⟨d', hd', hl, _⟩ := h
    rw [hd] at hd'
    cases hd'
    exact hl
theorem relS_start {K : Kw} {H : Hp} {N : List Str} {vs : List V} {us : List U} (r : RelL K H vs us) : RelS K H (L2.start N vs) (startU N.length us) := by
  refine ⟨by unfold L2.start startU; simp [r.length], fun i u e => ?_⟩
  unfold startU at e
  by_cases hi : i < us.length
  · rw [List.getElem?_append_left (by simpa using hi), List.getElem?_map] at e
    cases q : us[i]? with
    | none => rw [q] at e; cases e
    | some u' =>
      rw [q] at e
      cases e
      obtain ⟨v, hv, rv⟩ := r.get q
      refine ⟨v, ?_, rv⟩
      unfold L2.start
      rw [List.getElem?_append_left (by simpa [r.length] using hi), List.getElem?_map, hv]
      rfl
  · rw [List.getElem?_append_right (by simpa using hi)] at e
    rw [List.getElem?_replicate] at e
    split at e <;> cases e
section
variable {P : Program} {wd : World} {K : Fg} {mg : Str → Option Value} {base : Heap}
theorem fn_ok {G : Pg} {fa : Nat → Addr} {fd : Nat → FuncData}
    (hF : ∀ i d, G.T[i]? = some d → ∃ st, FunD K d.name d.qual (defArgs st) (defBody st) (defScope st) [] [] (fa i) (fd i) ∧ ckF G d st = true ∧ BindP d.name d.qual st d.ps)
    (hmg : ∀ i d, G.T[i]? = some d → d.cls = none → mg d.name = some (.ref (fa i))) (hblt : ∀ x ∈ bltNames, mg x = none) (hcls : ∀ cd ∈ G.cs, ClsK K mg fa cd)
    (hks : ∀ p ∈ G.ks, ∃ t, mg p.1 = some (.int p.2 t)) (hss : ∀ p ∈ G.ss, ∃ t, mg p.1 = some (.str p.2 t)) (hts : ∀ p ∈ G.ts, ∃ a, mg p.1 = some (.ref a) ∧ KTp (K, wd) a (p.2.map V.int)) (hds : ∀ p ∈ G.ds, ∃ z v, mg p.1 = some z ∧ RelV v z ∧ ∀ H, Rel (K, wd) H v p.2) :
    ∀ (k i : Nat) (d : Df), G.T[i]? = some d → FnOk P wd K mg base CX0 (2 * k) (fa i) (fd i) d.ps (spOf (K, wd) (Cs G.T k i)) := by
  intro k
  induction k with
  | zero =>
    intro i d hd
    refine ⟨fun vs H Q E ⟨us, M, Qu, S, r, h, c⟩ => h.elim, fun A outer s H args us vs Q E _ _ _ _ ⟨_, _, _, _, _, h, _⟩ => h.elim⟩
  | succ k ih =>
    intro i d hd
    obtain ⟨st, F, ck, _⟩ := hF i d hd
    unfold ckF at ck
    rw [Bool.and_eq_true] at ck
    refine F.ok (k := 2 * k + 1) (scope_of ck.1) (fun vs H Q E ⟨us, M, Qu, S, r, h, c⟩ => by rw [r.length]; exact Cs_len hd h) (fun cdv A outer s H vs Q E hr ⟨us, M, Qu, S, r, h, c⟩ => ?_)
    have Gg : Gd (cxOf CX0 P wd K mg base d.N d.qual (defScope st) (fa i) cdv A outer s H E).nox (G.ck d st) (2 * k) fa fd (Cs G.T k) := by
      refine ⟨rfl, rfl, (scope_of ck.1).nd, rfl, rfl, hr, hblt, fun j dj hj => ?_, hcls, hks, hss, hts, hds⟩
      obtain ⟨stj, Fj, _, bj⟩ := hF j dj hj
      exact ⟨hmg j dj hj, Fj.kp, Fj.bindsN bj, ih j dj hj⟩
    obtain ⟨t, p, q⟩ := (soundS d.b).2 _ _ (2 * k) fa fd (Cs G.T k) Gg (fun _ => rfl) (scope_of ck.1).kind _ ck.2
    refine ⟨t, p.nox, ?_⟩
    obtain ⟨d', hd', hl, hw⟩ := h
    rw [hd] at hd'
    cases hd'
    refine q _ _ _ H _ M (relS_start r) S hw ⟨fun σ' H' σu' M' st' rs' S' ⟨M2, sb, hq⟩ => ?_, fun v H' u M' st' S' rv ⟨M2, sb, hq⟩ => ?_, fun _ _ _ _ _ _ _ z => z.elim, fun _ _ _ _ _ _ _ z => z.elim⟩
    · exact c _ _ .non M2 (st'.trans S (Stp.sub sb)) (S'.sub sb) .non hq
    · exact c _ _ u M2 (st'.trans S (Stp.sub sb)) (S'.sub sb) rv hq
end

/-! ### the head's facts for such a text -/
def nameOf : Stmt → Str
  | .FunctionDef n .. => n
  | _ => ""
/-- the table against the text, def by def -/
def ckT (G : Pg) (sts : List Stmt) : Bool := decide (G.T.length = sts.length) && (List.zip G.T sts).all fun (p : Df × Stmt) => decide (nameOf p.2 = p.1.name) && ckF G p.1 p.2
theorem ckT_at {G : Pg} {sts : List Stmt} (h : ckT G sts = true) {i : Nat} {d : Df} (hd : G.T[i]? = some d) : ∃ st, sts[i]? = some st ∧ nameOf st = d.name ∧ ckF G d st = true := by
  unfold ckT at h
  rw [Bool.and_eq_true, decide_eq_true_eq] at h
  obtain ⟨h1, h2⟩ := h
  have hi := (List.getElem?_eq_some_iff.mp hd).1
  have hs : sts[i]? = some (sts[i]'(by omega)) := List.getElem?_eq_getElem (by omega)
  have hz : (List.zip G.T sts)[i]? = some (d, sts[i]'(by omega)) := by
    rw [List.getElem?_zip_eq_some]
    exact ⟨hd, hs⟩
  have q := List.all_eq_true.mp h2 _ (List.mem_of_getElem? hz)
  rw [Bool.and_eq_true, decide_eq_true_eq] at q
  exact ⟨_, hs, q.1, q.2⟩
/-- the getter of a property -/
def gtAd (K : Fg) (c m : Str) : Addr := match PySem.W.recIn K (He.ma K (cad K c) m) "property" with
  | some (.ref g :: _) => g
  | _ => 0
/-- where a def lies -/
def adOf (K : Fg) (d : Df) : Addr := match d.cls with
  | none => He.ga K d.name
  | some c => if d.prp = true then gtAd K c d.name else He.ma K (cad K c) d.name
def adAt (T : List Df) (K : Fg) (i : Nat) : Addr := (T[i]?).elim 0 (adOf K)
theorem adAt_of {T : List Df} {K : Fg} {i : Nat} {d : Df} (h : T[i]? = some d) : adAt T K i = adOf K d := by
  unfold adAt
  rw [h]
  rfl
abbrev DefV : Type := Option (Str × Str × Arguments × FuncBody × Scope × Addr × List (Str × Addr) × Addr)
def seeF (K : Fg) (a : Addr) : DefV := match K.lookup a with
  | some ⟨_, _, .func z, _⟩ => some (z.name, z.qualname, z.params, z.body, z.scope, z.globals, z.closure, z.builtins)
  | _ => none
def dueF (p : Df × Stmt) : DefV := some (p.1.name, p.1.qual, defArgs p.2, .stmts (defBody p.2), defScope p.2, mainGlobals, [], builtinsNs)
def isNoneV : Value → Bool
  | .none => true
  | _ => false
def okF (K : Fg) (a : Addr) (q : Str) : Bool := PySem.W.keepIn K (.ref a) && (match K.lookup a with
  | some ⟨_, _, .func z, _⟩ => PySem.W.codeIn K z.code q && isNoneV z.defaults
  | _ => false)
theorem funD_of {K : Fg} {a : Addr} {p : Df × Stmt} (e : seeF K a = dueF p) (c : okF K a p.1.qual = true) : ∃ fd, FunD K p.1.name p.1.qual (defArgs p.2) (defBody p.2) (defScope p.2) [] [] a fd := by
  unfold okF at c
  rw [Bool.and_eq_true] at c
  obtain ⟨c1, c2⟩ := c
  unfold seeF at e
  unfold dueF at e
  cases lk : K.lookup a with
  | none => rw [lk] at e; cases e
  | some ob =>
    obtain ⟨w1, w2, dat, w4⟩ := ob
    rw [lk] at e c2
    cases dat with
    | func z =>
      obtain ⟨z1, z2, z3, z4, z5, z6, z7, z8, z9, z10, z11, z12, z13, z14, z15⟩ := z
      simp only [Option.some.injEq, Prod.mk.injEq] at e
      obtain ⟨g1, g2, g3, g4, g5, g6, g7, g8⟩ := e
      subst g1 g2 g3 g4 g5 g6 g7 g8
      simp only [Bool.and_eq_true] at c2
      obtain ⟨c3, c4⟩ := c2
      cases z8 with
      | none => exact ⟨_, ⟨w1, w2, .none, z9, z10, z11, z12, z13, z14, w4, rfl, lk, c3, .inl ⟨rfl, rfl⟩, .inl rfl⟩, c1⟩
      | _ => cases c4
    | _ => cases c2
/-- a property of a class -/
def okP (K : Fg) (T : List Df) (cn : Str) (q : Str × Nat) : Bool := He.eqO (PySem.W.findIn K (.ref (cad K cn)) q.1) (some (some (.ref (He.ma K (cad K cn) q.1)))) &&
  (decide (PySem.W.specialIn K (.ref (He.ma K (cad K cn) q.1)) "__get__" = some (some (.builtin "property.__get__"))) && (decide (PySem.W.takesIn K (.ref (He.ma K (cad K cn) q.1)) = some true) &&
    (match PySem.W.recIn K (He.ma K (cad K cn) q.1) "property" with
    | some (.ref z :: _) => decide (z = adAt T K q.2)
    | _ => false)))
theorem okP_of {K : Fg} {T : List Df} {cn : Str} {q : Str × Nat} (h : okP K T cn q = true) : ∃ pa, PropOf K (cad K cn) q.1 pa (adAt T K q.2) := by
  unfold okP at h
  simp only [Bool.and_eq_true, decide_eq_true_eq] at h
  obtain ⟨h1, h2, h3, h4⟩ := h
  refine ⟨_, He.eqO_ok h1, h2, h3, ?_⟩
  cases e : PySem.W.recIn K (He.ma K (cad K cn) q.1) "property" with
  | none => rw [e] at h4; cases h4
  | some l =>
    rw [e] at h4
    cases l with
    | nil => cases h4
    | cons v r =>
      cases v with
      | ref z => exact ⟨r, by rw [of_decide_eq_true h4]⟩
      | _ => cases h4
def okC (K : Fg) (T : List Df) (cd : Cd) : Bool := (He.Fa.cls cd.name).ok K && ((cd.flds.all fun f => (He.Fa.noat cd.name f).ok K) && ((cd.mets.all fun q => (He.Fa.meth cd.name q.1).ok K && decide (He.ma K (cad K cd.name) q.1 = adAt T K q.2)) &&
  ((cd.prps.all fun q => okP K T cd.name q) && (match cd.init with
  | none => true
  | some i => (He.Fa.mkr cd.name).ok K && ((He.Fa.glo cd.name).ok K && decide (He.ma K (cad K cd.name) "__init__" = adAt T K i))))))
theorem okC_of {K : Fg} {h : Heap} {mg : Str → Option Value} (X : K.In h) (G : h.Ns mainGlobals mg) {T : List Df} {cd : Cd} (c : okC K T cd = true) : ClsK K mg (adAt T K) cd := by
  unfold okC at c
  simp only [Bool.and_eq_true, List.all_eq_true] at c
  obtain ⟨c1, c2, c3, c4, c5⟩ := c
  refine ⟨He.cls_ok c1, fun f hf => He.noat_ok (c2 f hf), fun q hq => ?_, fun q hq => okP_of (c4 q hq), fun i hi => ?_⟩
  · obtain ⟨a, b⟩ := c3 q hq
    rw [← of_decide_eq_true b]
    exact He.meth_ok a
  · rw [hi] at c5
    simp only [Bool.and_eq_true] at c5
    obtain ⟨a, b, d⟩ := c5
    rw [← of_decide_eq_true d]
    exact ⟨He.mkr_ok a, He.glo_ok X G b⟩
/-- a tuple of numbers that the module holds -/
def isInts : List Int → List Value → Bool
  | [], [] => true
  | i :: is, .int j _ :: vs => decide (i = j) && isInts is vs
  | _, _ => false
theorem isInts_ok : ∀ {is : List Int} {vs : List Value}, isInts is vs = true → Vals (is.map V.int) vs
  | [], [], _ => .nil
  | i :: is, .int j t :: vs, h => by
    unfold isInts at h
    rw [Bool.and_eq_true, decide_eq_true_eq] at h
    rw [h.1]
    exact .cons ⟨t, rfl⟩ (isInts_ok h.2)
def okT (K : Fg) (p : Str × List Int) : Bool := (He.Fa.glo p.1).ok K && (match K.lookup (He.ga K p.1) with
  | some o => decide (o.cls = .type "tuple") && (match o.data with
    | .seq its _ => decide (its.size ≤ sizeLine) && isInts p.2 its.toList
    | _ => false)
  | none => false) && !p.2.isEmpty
theorem okT_of {K : Fg} {h : Heap} {mg : Str → Option Value} {wd : World} (X : K.In h) (G : h.Ns mainGlobals mg) {p : Str × List Int} (c : okT K p = true) : ∃ a, mg p.1 = some (.ref a) ∧ KTp (K, wd) a (p.2.map V.int) := by
  unfold okT at c
  rw [Bool.and_eq_true, Bool.and_eq_true] at c
  obtain ⟨⟨c1, c2⟩, c0⟩ := c
  have c0 : ∃ i r, p.2.map V.int = V.int i :: r := by
    cases e : p.2 with
    | nil => rw [e] at c0; cases c0
    | cons i r => exact ⟨i, r.map V.int, rfl⟩
  refine ⟨_, He.glo_ok X G c1, c0, ?_⟩
  cases lk : K.lookup (He.ga K p.1) with
  | none => rw [lk] at c2; cases c2
  | some o =>
    rw [lk] at c2
    simp only [Bool.and_eq_true, decide_eq_true_eq] at c2
    obtain ⟨c3, c4⟩ := c2
    cases hd : o.data with
    | seq its n =>
      rw [hd] at c4
      simp only [Bool.and_eq_true, decide_eq_true_eq] at c4
      exact ⟨o, its, n, rfl, c3, hd, c4.1, isInts_ok c4.2⟩
    | _ => rw [hd] at c4; cases c4
def flatD : Value → U → Bool
  | .int i _, .int j => decide (i = j)
  | .str x _, .str y => decide (x = y)
  | _, _ => false
def all2D (f : Value → U → Bool) : List Value → List U → Bool
  | [], [] => true
  | v :: vs, u :: us => f v u && all2D f vs us
  | _, _ => false
def tupD (K : Fg) (f : List Value → List U → Bool) : Value → U → Bool
  | .ref a, .dtp l => (match K.lookup a with
    | some o => (decide (o.cls = .type "tuple") && (match o.dict with | none => true | some _ => false) && decide (o.slots.size = 0)) && (match o.data with
      | .seq its _ => decide (its.size ≤ sizeLine) && f its.toList l
      | _ => false)
    | none => false)
  | _, _ => false
/-- data that the module holds -/
def okD (K : Fg) : Nat → Value → U → Bool
  | 0, z, u => flatD z u
  | n + 1, z, u => flatD z u || tupD K (all2D (okD K n)) z u
theorem flatD_of {K : Fg} {wd : World} {z : Value} {u : U} (h : flatD z u = true) : ∃ v, RelV v z ∧ ∀ H, Rel (K, wd) H v u := by
  unfold flatD at h
  split at h
  · rename_i i t j
    have h := of_decide_eq_true h
    subst h
    exact ⟨.int i, ⟨t, rfl⟩, fun _ => .int i⟩
  · rename_i x t y
    have h := of_decide_eq_true h
    subst h
    exact ⟨.str x, ⟨t, rfl⟩, fun _ => .str x⟩
  · cases h
theorem all2D_of {K : Fg} {wd : World} {f : Value → U → Bool} (hf : ∀ z u, f z u = true → ∃ v, RelV v z ∧ ∀ H, Rel (K, wd) H v u) : ∀ (zs : List Value) (us : List U), all2D f zs us = true → ∃ vs, Vals vs zs ∧ ∀ H, RelL (K, wd) H vs us
  | [], [], _ => ⟨[], .nil, fun _ => .nil⟩
  | z :: zs, u :: us, h => by
    unfold all2D at h
    rw [Bool.and_eq_true] at h
    obtain ⟨v, h1, h2⟩ := hf z u h.1
    obtain ⟨vs, h3, h4⟩ := all2D_of hf zs us h.2
    exact ⟨v :: vs, .cons h1 h3, fun H => .cons (h2 H) (h4 H)⟩
  | [], _ :: _, h => by cases h
  | _ :: _, [], h => by cases h
theorem tupD_of {K : Fg} {wd : World} {f : List Value → List U → Bool} (hf : ∀ zs us, f zs us = true → ∃ vs, Vals vs zs ∧ ∀ H, RelL (K, wd) H vs us) {z : Value} {u : U} (h : tupD K f z u = true) : ∃ v, RelV v z ∧ ∀ H, Rel (K, wd) H v u := by
  unfold tupD at h
  split at h
  · rename_i a l
    cases lk : K.lookup a with
    | none => rw [lk] at h; cases h
    | some o =>
      rw [lk] at h
      simp only [Bool.and_eq_true, decide_eq_true_eq] at h
      obtain ⟨⟨⟨c1, c2⟩, c3⟩, c4⟩ := h
      have c2 : o.dict = none := by
        cases e : o.dict with
        | none => rfl
        | some _ => rw [e] at c2; cases c2
      cases hd : o.data with
      | seq its m =>
        rw [hd] at c4
        simp only [Bool.and_eq_true, decide_eq_true_eq] at c4
        obtain ⟨vs, hv, hr⟩ := hf its.toList l c4.2
        exact ⟨.ref a, rfl, fun H => .dtp (.inr ⟨o, its, m, ⟨lk, c1, hd, c4.1, hv⟩, c2, Array.eq_empty_of_size_eq_zero c3⟩) (hr H)⟩
      | _ => rw [hd] at c4; cases c4
  · cases h
theorem okD_of {K : Fg} {wd : World} : ∀ (n : Nat) (z : Value) (u : U), okD K n z u = true → ∃ v, RelV v z ∧ ∀ H, Rel (K, wd) H v u
  | 0, z, u, h => flatD_of h
  | n + 1, z, u, h => by
    unfold okD at h
    rw [Bool.or_eq_true] at h
    rcases h with h | h
    · exact flatD_of h
    · exact tupD_of (all2D_of (okD_of n)) h
def okDt (K : Fg) (p : Str × U) : Bool := (He.Fa.glo p.1).ok K && okD K 3 (.ref (He.ga K p.1)) p.2
theorem okDt_of {K : Fg} {h : Heap} {mg : Str → Option Value} {wd : World} (X : K.In h) (G : h.Ns mainGlobals mg) {p : Str × U} (c : okDt K p = true) : ∃ z v, mg p.1 = some z ∧ RelV v z ∧ ∀ H, Rel (K, wd) H v p.2 := by
  unfold okDt at c
  rw [Bool.and_eq_true] at c
  obtain ⟨v, h1, h2⟩ := okD_of (wd := wd) 3 _ _ c.2
  exact ⟨_, v, He.glo_ok X G c.1, h1, h2⟩
/-- all that the head must tell -/
def facts (G : Pg) : List He.Fa := ((G.T.filter fun d => decide (d.cls = none)).map fun d => .glo d.name) ++ (bltNames.map He.Fa.free ++ (G.ks.map (fun p => He.Fa.int p.1 p.2) ++ G.ss.map fun p => He.Fa.str p.1 p.2))
abbrev AlX : Type := Bool × List DefV
def obsX (G : Pg) (K : Fg) : AlX := (((facts G).all fun f => f.ok K) && ((G.T.all fun d => okF K (adOf K d) d.qual) && ((G.cs.all fun cd => okC K G.T cd) && (G.ts.all fun p => okT K p) && G.ds.all fun p => okDt K p)), G.T.map fun d => seeF K (adOf K d))
def valX (G : Pg) (sts : List Stmt) : AlX := (true, (List.zip G.T sts).map dueF)
def SaysX (G : Pg) (sts : List Stmt) (K : Fg) : Prop := obsX G K = valX G sts
/-- what lies within n steps of the module's names, each address once: the met ones as bits -/
def bitX (s : Nat) (a : Addr) : Bool := Nat.beq (Nat.land (Nat.shiftRight s a) 1) 1
def addX : List Addr → Nat → List Addr → Nat × List Addr
  | [], s, o => (s, o)
  | a :: r, s, o => match bitX s a with
    | true => addX r s o
    | false => addX r (Nat.lor s (Nat.shiftLeft 1 a)) (a :: o)
def rowX (g : Addr → Option Obj) : List Addr → Nat → List Addr → Nat × List Addr
  | [], s, o => (s, o)
  | a :: r, s, o => match g a with
    | none => rowX g r s o
    | some x => match addX (He.refsD x) s o with
      | (s', o') => rowX g r s' o'
def asX (g : Addr → Option Obj) : Nat → Nat → List Addr → Nat × List Addr
  | 0, s, l => (s, l)
  | n + 1, s, l => match rowX g l s [] with
    | (s', o) => match asX g n s' o with
      | (s2, o2) => (s2, l ++ o2)
theorem bitX_test (s : Nat) (a : Addr) : bitX s a = s.testBit a := by
  have e : bitX s a = decide ((s >>> a) &&& 1 = 1) := by
    unfold bitX
    show Nat.beq ((s >>> a) &&& 1) 1 = _
    by_cases h : (s >>> a) &&& 1 = 1
    · rw [h]; rfl
    · rw [decide_eq_false h]
      exact Bool.eq_false_iff.mpr fun z => h (Nat.eq_of_beq_eq_true z)
  rw [e]
  unfold Nat.testBit
  rw [Nat.and_comm 1, Nat.and_one_is_mod]
  rcases Nat.mod_two_eq_zero_or_one (s >>> a) with h | h <;> rw [h] <;> rfl
theorem bitX_or (s : Nat) (a b : Addr) : bitX (Nat.lor s (Nat.shiftLeft 1 a)) b = true → bitX s b = true ∨ b = a := by
  rw [bitX_test, bitX_test]
  show (s ||| 1 <<< a).testBit b = true → _
  rw [Nat.testBit_or, Nat.testBit_shiftLeft, Bool.or_eq_true]
  rintro (h | h)
  · exact .inl h
  · rw [Bool.and_eq_true, decide_eq_true_eq] at h
    have h2 := h.2
    rw [Nat.testBit_one_eq_true_iff_self_eq_zero] at h2
    exact .inr (Nat.le_antisymm (Nat.le_of_sub_eq_zero h2) h.1)
theorem addX_ok : ∀ (r : List Addr) (s : Nat) (o : List Addr), (∀ b, b ∈ o → b ∈ (addX r s o).2) ∧ ∀ b, bitX (addX r s o).1 b = true → bitX s b = true ∨ b ∈ (addX r s o).2
  | [], s, o => ⟨fun _ h => h, fun _ h => .inl h⟩
  | a :: r, s, o => by
    unfold addX
    cases h : bitX s a with
    | true => exact addX_ok r s o
    | false =>
      obtain ⟨h1, h2⟩ := addX_ok r (Nat.lor s (Nat.shiftLeft 1 a)) (a :: o)
      refine ⟨fun b hb => h1 b (List.mem_cons_of_mem _ hb), fun b hb => ?_⟩
      rcases h2 b hb with h3 | h3
      · rcases bitX_or s a b h3 with h4 | h4
        · exact .inl h4
        · exact .inr (h1 b (h4 ▸ List.mem_cons_self))
      · exact .inr h3
theorem rowX_ok (g : Addr → Option Obj) : ∀ (r : List Addr) (s : Nat) (o : List Addr), (∀ b, b ∈ o → b ∈ (rowX g r s o).2) ∧ ∀ b, bitX (rowX g r s o).1 b = true → bitX s b = true ∨ b ∈ (rowX g r s o).2
  | [], s, o => ⟨fun _ h => h, fun _ h => .inl h⟩
  | a :: r, s, o => by
    unfold rowX
    cases g a with
    | none => exact rowX_ok g r s o
    | some x =>
      obtain ⟨h1, h2⟩ := addX_ok (He.refsD x) s o
      obtain ⟨h3, h4⟩ := rowX_ok g r (addX (He.refsD x) s o).1 (addX (He.refsD x) s o).2
      refine ⟨fun b hb => h3 b (h1 b hb), fun b hb => ?_⟩
      rcases h4 b hb with h5 | h5
      · rcases h2 b h5 with h6 | h6
        · exact .inl h6
        · exact .inr (h3 b h6)
      · exact .inr h5
theorem asX_ok (g : Addr → Option Obj) : ∀ (n s : Nat) (l : List Addr), (∀ b, b ∈ l → b ∈ (asX g n s l).2) ∧ ∀ b, bitX (asX g n s l).1 b = true → bitX s b = true ∨ b ∈ (asX g n s l).2
  | 0, s, l => ⟨fun _ h => h, fun _ h => .inl h⟩
  | n + 1, s, l => by
    obtain ⟨h1, h2⟩ := rowX_ok g l s []
    obtain ⟨h3, h4⟩ := asX_ok g n (rowX g l s []).1 (rowX g l s []).2
    refine ⟨fun b hb => List.mem_append_left _ hb, fun b hb => ?_⟩
    rcases h4 b hb with h5 | h5
    · rcases h2 b h5 with h6 | h6
      · exact .inl h6
      · exact .inr (List.mem_append_right _ (h3 b h6))
    · exact .inr (List.mem_append_right _ h5)
theorem frG_to {g : Addr → Option Obj} {a : Addr} : ∀ {as : List Addr}, a ∈ as → (He.frG g as).lookup a = g a
  | b :: r, h => by
    show ((b :: r).filterMap fun a => (g a).map fun o => (a, o)).lookup a = g a
    rw [List.filterMap_cons]
    by_cases e : b = a
    · subst e
      cases hb : g b with
      | none =>
        show (He.frG g r).lookup b = none
        cases q : (He.frG g r).lookup b with
        | none => rfl
        | some o =>
          have := He.frG_at r q
          rw [hb] at this
          cases this
      | some o => exact List.lookup_cons_self
    · have hm : a ∈ r := by
        rcases List.mem_cons.mp h with h | h
        · exact absurd h.symm e
        · exact h
      cases hb : g b with
      | none => exact frG_to hm
      | some o =>
        show List.lookup a ((b, o) :: He.frG g r) = g a
        rw [List.lookup_cons, show (a == b) = false from beq_eq_false_iff_ne.mpr (Ne.symm e)]
        exact frG_to hm
/-- okF, seeF off the objects themselves -/
def okG (g : Addr → Option Obj) (s : Nat) (a : Addr) (q : Str) : Bool := bitX s a && (match g a with
  | some ⟨_, _, .func z, _⟩ => (match z.code with
    | .ref c => bitX s c && (match g c with
      | some ⟨_, _, .fields vs, _⟩ => (match vs.toList with | _ :: .str n _ :: _ => n == q | _ => false)
      | _ => false)
    | _ => false) && isNoneV z.defaults
  | _ => false)
def seeG (g : Addr → Option Obj) (a : Addr) : DefV := match g a with
  | some ⟨_, _, .func z, _⟩ => some (z.name, z.qualname, z.params, z.body, z.scope, z.globals, z.closure, z.builtins)
  | _ => none
theorem okG_ok {g : Addr → Option Obj} {as : List Addr} {s : Nat} (hs : ∀ a, bitX s a = true → a ∈ as) {a : Addr} {q : Str} (h : okG g s a q = true) : okF (He.frG g as) a q = true ∧ seeF (He.frG g as) a = seeG g a := by
  unfold okG at h
  rw [Bool.and_eq_true] at h
  obtain ⟨h1, h2⟩ := h
  have e := frG_to (g := g) (hs a h1)
  cases ha : g a with
  | none => rw [ha] at h2; cases h2
  | some o =>
    obtain ⟨w1, w2, dat, w4⟩ := o
    rw [ha] at h2 e
    cases dat with
    | func z =>
      simp only [Bool.and_eq_true] at h2
      obtain ⟨h3, h4⟩ := h2
      have hc : PySem.W.codeIn (He.frG g as) z.code q = true := by
        cases hc : z.code with
        | ref c =>
          rw [hc] at h3
          simp only [Bool.and_eq_true] at h3
          show (match (He.frG g as).lookup c with
            | some ⟨_, _, .fields vs, _⟩ => (match vs.toList with | _ :: .str n _ :: _ => n == q | _ => false)
            | _ => false) = true
          rw [frG_to (g := g) (hs c h3.1)]
          exact h3.2
        | _ => rw [hc] at h3; cases h3
      have hk : PySem.W.keepIn (He.frG g as) (.ref a) = true := by
        show (match (He.frG g as).lookup a with
          | some ⟨_, _, .func _, _⟩ => true
          | some ⟨_, _, .cls _, _⟩ => PySem.W.specialIn (He.frG g as) (.ref a) "__call__" == some (some (.builtin "type.__call__"))
          | _ => false) = true
        rw [e]
      refine ⟨?_, ?_⟩
      · unfold okF
        rw [hk, e, Bool.true_and]
        show (PySem.W.codeIn (He.frG g as) z.code q && isNoneV z.defaults) = true
        rw [hc, h4]
        rfl
      · unfold seeF seeG
        rw [e, ha]
    | _ => cases h2
def frX (n : Nat) (g : Addr → Option Obj) : Fg := He.frG g (asX g n (Nat.shiftLeft 1 mainGlobals) [mainGlobals]).2
def obsXG (n : Nat) (G : Pg) (g : Addr → Option Obj) : AlX :=
  (((facts G).all fun f => f.ok (frX n g)) && ((G.T.all fun d => okG g (asX g n (Nat.shiftLeft 1 mainGlobals) [mainGlobals]).1 (adOf (frX n g) d) d.qual) && ((G.cs.all fun cd => okC (frX n g) G.T cd) && (G.ts.all fun p => okT (frX n g) p) && G.ds.all fun p => okDt (frX n g) p)), G.T.map fun d => seeG g (adOf (frX n g) d))
theorem obsXG_says {n : Nat} {G : Pg} {sts : List Stmt} {g : Addr → Option Obj} (e : obsXG n G g = valX G sts) : SaysX G sts (frX n g) := by
  have c1 : (((facts G).all fun f => f.ok (frX n g)) && ((G.T.all fun d => okG g (asX g n (Nat.shiftLeft 1 mainGlobals) [mainGlobals]).1 (adOf (frX n g) d) d.qual) && ((G.cs.all fun cd => okC (frX n g) G.T cd) && (G.ts.all fun p => okT (frX n g) p) && G.ds.all fun p => okDt (frX n g) p))) = true := congrArg (fun z : AlX => z.1) e
  have c2 : (G.T.map fun d => seeG g (adOf (frX n g) d)) = (List.zip G.T sts).map dueF := congrArg (fun z : AlX => z.2) e
  have hs : ∀ a, bitX (asX g n (Nat.shiftLeft 1 mainGlobals) [mainGlobals]).1 a = true → a ∈ (asX g n (Nat.shiftLeft 1 mainGlobals) [mainGlobals]).2 := fun a ha => by
    obtain ⟨h1, h2⟩ := asX_ok g n (Nat.shiftLeft 1 mainGlobals) [mainGlobals]
    rcases h2 a ha with h3 | h3
    · refine h1 a ?_
      have h4 : bitX (Nat.lor 0 (Nat.shiftLeft 1 mainGlobals)) a = true := by
        rw [show Nat.lor 0 (Nat.shiftLeft 1 mainGlobals) = Nat.shiftLeft 1 mainGlobals from Nat.zero_or _]
        exact h3
      rcases bitX_or 0 mainGlobals a h4 with h5 | h5
      · rw [bitX_test, Nat.zero_testBit] at h5; cases h5
      · rw [h5]; exact List.mem_cons_self
    · exact h3
  rw [Bool.and_eq_true, Bool.and_eq_true] at c1
  obtain ⟨a1, a2, a3⟩ := c1
  have q : ∀ d ∈ G.T, okF (frX n g) (adOf (frX n g) d) d.qual = true ∧ seeF (frX n g) (adOf (frX n g) d) = seeG g (adOf (frX n g) d) := fun d hd => okG_ok hs (List.all_eq_true.mp a2 d hd)
  have p1 : (G.T.all fun d => okF (frX n g) (adOf (frX n g) d) d.qual) = true := List.all_eq_true.mpr fun d hd => (q d hd).1
  have p2 : (G.T.map fun d => seeF (frX n g) (adOf (frX n g) d)) = (List.zip G.T sts).map dueF := by
    rw [← c2]
    exact List.map_congr_left fun d hd => (q d hd).2
  show (_, _) = (_, _)
  rw [a1, p1, a3, p2]
  rfl
def hookX (n : Nat) (G : Pg) (sts : List Stmt) : PySem.W.Hook where
  α := AlX
  obs := fun s => obsXG n G s.heap.get?
  val := fun _ => valX G sts
  says := fun _ h => ∃ K : Fg, K.In h ∧ SaysX G sts K
  of := fun _ _ e => ⟨_, He.frG_in, obsXG_says e⟩
  keeps := fun _ _ _ ⟨K, hK, c⟩ k => ⟨K, PySem.W.Frag.In.keeps hK k, c⟩
/-- all defs bind -/
def AllBd : List (Df × Stmt) → Prop
  | [] => True
  | p :: r => BindP p.1.name p.1.qual p.2 p.1.ps ∧ AllBd r
theorem AllBd.mem : ∀ {l : List (Df × Stmt)}, AllBd l → ∀ p ∈ l, BindP p.1.name p.1.qual p.2 p.1.ps
  | [], _, _, h => nomatch h
  | q :: r, a, p, h => by
    rcases List.mem_cons.mp h with h | h
    · rw [h]; exact a.1
    · exact a.2.mem p h
theorem bd_of {T : List Df} {sts : List Stmt} (a : AllBd (List.zip T sts)) : ∀ (i : Nat) (d : Df) (st : Stmt), T[i]? = some d → sts[i]? = some st → BindP d.name d.qual st d.ps := fun i d st h1 h2 =>
  a.mem (d, st) (List.mem_of_getElem? (List.getElem?_zip_eq_some.mpr ⟨h1, h2⟩))
theorem obsXG_eq {n : Nat} {G : Pg} {sts : List Stmt} {g : Addr → Option Obj} {s : Shared} (h : ∀ a, g a = s.heap.get? a) : obsXG n G g = (hookX n G sts).obs s := by
  rw [show g = s.heap.get? from funext h]
  rfl
section
variable {G : Pg} {sts : List Stmt} {K : Fg}
theorem SaysX.parts (c : SaysX G sts K) : (∀ f ∈ facts G, f.ok K = true) ∧ (∀ d ∈ G.T, okF K (adOf K d) d.qual = true) ∧ (∀ cd ∈ G.cs, okC K G.T cd = true) ∧ (G.T.map fun d => seeF K (adOf K d)) = (List.zip G.T sts).map dueF ∧ (∀ p ∈ G.ts, okT K p = true) ∧ ∀ p ∈ G.ds, okDt K p = true := by
  have c1 : (((facts G).all fun f => f.ok K) && ((G.T.all fun d => okF K (adOf K d) d.qual) && ((G.cs.all fun cd => okC K G.T cd) && (G.ts.all fun p => okT K p) && G.ds.all fun p => okDt K p))) = true := congrArg (fun z : AlX => z.1) c
  have c2 := congrArg (fun z : AlX => z.2) c
  simp only [Bool.and_eq_true, List.all_eq_true] at c1
  exact ⟨c1.1, c1.2.1, c1.2.2.1.1, c2, c1.2.2.1.2, c1.2.2.2⟩
theorem opt_inj {α : Type} {a b : α} (h : some a = some b) : a = b := by injection h
theorem vref_inj {a b : Addr} (h : (some (Value.ref a) : Option Value) = some (Value.ref b)) : a = b := by
  injection h with h
  injection h
theorem hglo_of {h : Heap} {mg : Str → Option Value} (X : K.In h) (Gn : h.Ns mainGlobals mg) (c : SaysX G sts K) {i : Nat} {d : Df} (hd : G.T[i]? = some d) (hc : d.cls = none) : mg d.name = some (.ref (adAt G.T K i)) := by
  have q := c.parts.1 (.glo d.name) (List.mem_append_left _ (List.mem_map.mpr ⟨d, List.mem_filter.mpr ⟨List.mem_of_getElem? hd, decide_eq_true hc⟩, rfl⟩))
  rw [adAt_of hd]
  unfold adOf
  rw [hc]
  exact He.glo_ok X Gn q
theorem hfree_of {h : Heap} {mg : Str → Option Value} (X : K.In h) (Gn : h.Ns mainGlobals mg) (c : SaysX G sts K) : ∀ x ∈ bltNames, mg x = none := fun x hx =>
  He.free_ok X Gn (c.parts.1 (.free x) (List.mem_append_right _ (List.mem_append_left _ (List.mem_map.mpr ⟨x, hx, rfl⟩))))
theorem hint_of {h : Heap} {mg : Str → Option Value} (X : K.In h) (Gn : h.Ns mainGlobals mg) (c : SaysX G sts K) : ∀ p ∈ G.ks, ∃ t, mg p.1 = some (.int p.2 t) := fun p hp =>
  He.int_ok X Gn (c.parts.1 (.int p.1 p.2) (List.mem_append_right _ (List.mem_append_right _ (List.mem_append_left _ (List.mem_map.mpr ⟨p, hp, rfl⟩)))))
theorem hstr_of {h : Heap} {mg : Str → Option Value} (X : K.In h) (Gn : h.Ns mainGlobals mg) (c : SaysX G sts K) : ∀ p ∈ G.ss, ∃ t, mg p.1 = some (.str p.2 t) := fun p hp =>
  He.str_ok X Gn (c.parts.1 (.str p.1 p.2) (List.mem_append_right _ (List.mem_append_right _ (List.mem_append_right _ (List.mem_map.mpr ⟨p, hp, rfl⟩)))))
theorem htup_of {h : Heap} {mg : Str → Option Value} {wd : World} (X : K.In h) (Gn : h.Ns mainGlobals mg) (c : SaysX G sts K) : ∀ p ∈ G.ts, ∃ a, mg p.1 = some (.ref a) ∧ KTp (K, wd) a (p.2.map V.int) := fun p hp => okT_of X Gn (c.parts.2.2.2.2.1 p hp)
theorem hdat_of {h : Heap} {mg : Str → Option Value} {wd : World} (X : K.In h) (Gn : h.Ns mainGlobals mg) (c : SaysX G sts K) : ∀ p ∈ G.ds, ∃ z v, mg p.1 = some z ∧ RelV v z ∧ ∀ H, Rel (K, wd) H v p.2 := fun p hp => okDt_of X Gn (c.parts.2.2.2.2.2 p hp)
theorem hdef_of (ck : ckT G sts = true) (c : SaysX G sts K) : ∃ fd : Nat → FuncData, ∀ (i : Nat) (d : Df), G.T[i]? = some d → ∃ st, sts[i]? = some st ∧ FunD K d.name d.qual (defArgs st) (defBody st) (defScope st) [] [] (adAt G.T K i) (fd i) ∧ ckF G d st = true := by
  have Fi : ∀ i : Nat, ∃ fd : FuncData, ∀ d : Df, G.T[i]? = some d → ∃ st, sts[i]? = some st ∧ FunD K d.name d.qual (defArgs st) (defBody st) (defScope st) [] [] (adAt G.T K i) fd ∧ ckF G d st = true := fun i => by
    rcases hd : G.T[i]? with _ | d
    · exact ⟨⟨"", "", ⟨[], [], none, [], [], none, []⟩, .stmts [], ⟨.function, [], false, false, []⟩, 0, [], .none, .none, .none, .none, none, .none, .none, 0⟩, fun d h => by cases h⟩
    · obtain ⟨st, hs, e1, e2⟩ := ckT_at ck hd
      have hz : (List.zip G.T sts)[i]? = some (d, st) := by
        rw [List.getElem?_zip_eq_some]
        exact ⟨hd, hs⟩
      have c4 := c.parts.2.2.2.1
      have e3 : (G.T.map fun d => seeF K (adOf K d))[i]? = ((List.zip G.T sts).map dueF)[i]? := by rw [c4]
      rw [List.getElem?_map, List.getElem?_map, hd, hz] at e3
      obtain ⟨fd, F⟩ := funD_of (p := (d, st)) (opt_inj e3) (c.parts.2.1 d (List.mem_of_getElem? hd))
      refine ⟨fd, fun d' h1 => ?_⟩
      have e := opt_inj h1
      subst e
      exact ⟨st, hs, by rw [adAt_of hd]; exact F, e2⟩
  exact ⟨fun i => Classical.choose (Fi i), fun i => Classical.choose_spec (Fi i)⟩
end
theorem rl_ints {K : Kw} {H : Hp} : ∀ l : List Int, RelL K H (l.map V.int) (l.map U.int)
  | [] => RelL.nil
  | i :: l => RelL.cons (Rel.int i) (rl_ints l)
theorem rl_arg {K : Kw} {H : Hp} {a : Addr} {xs : List V} (hO : Only H) (hS : SqL K H a xs) : Rl K H a xs := by
  rcases hS with hS | hS
  · rcases hS with hS | ⟨o, hS⟩
    · rcases hO a with z | ⟨o, xs, z⟩
      · rw [hS] at z; cases z
      · rw [hS] at z; cases z
    · exact .inl ⟨o, hS⟩
  · exact .inr hS
theorem law_ok {P : Program} {wd : World} {K : Fg} {h : Heap} {mg : Str → Option Value} {f : Addr} {G : Pg} {sts : List Stmt} {n : Nat} {k : Nat} {dl : Df} (ck : ckT G sts = true) (hb : ∀ (i : Nat) (d : Df) (st : Stmt), G.T[i]? = some d → sts[i]? = some st → BindP d.name d.qual st d.ps)
    (hn : G.T[n]? = some dl) (hps : dl.ps = ([("script" : Str)] : List Str)) (hname : dl.name = "law") (hcl : dl.cls = none) (X : K.In h) (Gn : h.Ns mainGlobals mg) (hfa : mg ("law" : Str) = some (.ref f)) (c : SaysX G sts K)
    (hlaw : ∀ ns : List Int, ns.length ≤ 63 → Cs G.T k n [.rol (ns.map U.int)] (fun _ => none) (fun u _ => u = .bl true)) :
    ∃ (fd : FuncData) (sp : Sp), (∀ (s : Shared) (v : Value), BindsTo s fd ⟨[v], []⟩ [("script", v)]) ∧
      (∀ (H : Hp) (a : Addr) (ns : List Int), ns.length ≤ 63 → Only H → SqL K H a (ns.map V.int) → sp [.ref a] H (fun v _ => v = .bl true) fun _ _ _ => False) ∧
      ∀ base : Heap, K.In base → base.Ns mainGlobals mg → FnOk P wd K mg base CX0 (2 * k) f fd ["script"] sp := by
  obtain ⟨fd, hfd⟩ := hdef_of ck c
  have F := fun base => fn_ok (P := P) (wd := wd) (base := base) (G := G) (fa := adAt G.T K) (fd := fd) (K := K) (mg := mg) (fun i d hd => by
      obtain ⟨st, hs, e1, e2⟩ := hfd i d hd
      exact ⟨st, e1, e2, hb i d st hd hs⟩) (fun i d hd hc => hglo_of X Gn c hd hc) (hfree_of X Gn c) (fun cd hcd => okC_of X Gn (c.parts.2.2.1 cd hcd)) (hint_of X Gn c) (hstr_of X Gn c) (htup_of X Gn c) (hdat_of X Gn c) k n dl hn
  have ef : adAt G.T K n = f := by
    have q := hglo_of X Gn c hn hcl
    rw [hname, hfa] at q
    exact (vref_inj q).symm
  obtain ⟨st, hs, e1, e2⟩ := hfd n dl hn
  have hbn := hb n dl st hn hs
  refine ⟨fd n, spOf (K, wd) (Cs G.T k n), ?_, fun H a ns hl hO hS => ?_, fun base _ _ => ?_⟩
  · intro s v
    have q := e1.bindsA hbn s [v] (by rw [hps]; exact Eq.refl 1)
    rw [hps] at q
    exact q
  · have S0 : Sim (K, wd) H (fun _ => none) := fun a o e => by exact absurd e (fun z => by cases z)
    have R0 : RelL (K, wd) H [V.ref a] [U.rol (ns.map U.int)] := RelL.cons (Rel.rol (rl_arg (K := (K, wd)) hO hS) (rl_ints ns)) RelL.nil
    have C0 : Cont (K, wd) H (fun _ => none) (fun u _ => u = U.bl true) (fun v _ => v = V.bl true) := fun v H2 u M2 _ _ (r : Rel (K, wd) H2 v u) (e : u = .bl true) => by
      subst e
      cases r
      rfl
    exact ⟨[U.rol (ns.map U.int)], fun _ => none, fun u _ => u = U.bl true, S0, R0, hlaw ns hl, C0⟩
  · have q := F base
    rw [ef, hps] at q
    exact q
end Pl

set_option maxHeartbeats 400000
/-! tools to work with what is asked: one step each -/
namespace Pl
open PySem L2
theorem Sub.refl (M : Hm) : Sub M M := fun _ _ h => h
theorem Sub.trans {A B C : Hm} (h : Sub A B) (g : Sub B C) : Sub A C := fun a o e => g a o (h a o e)
theorem sub_um {A B : Hm} {p : Addr} {o : MO} (h : Sub A B) (hp : A p = none) : Sub A (um B p o) := fun a o' e => by
  by_cases q : a = p
  · subst q; rw [hp] at e; cases e
  · rw [um_ne q]; exact h a o' e
theorem um_old {M : Hm} {p a : Addr} {o o' : MO} (hp : M p = some o') (ha : M a = none) : um M a o p = some o' := by
  rw [um_ne]
  · exact hp
  · intro e; subst e; rw [hp] at ha; cases ha
theorem um_oth {M : Hm} {p a : Addr} {o : MO} {r : Option MO} (h : p ≠ a) (hp : M p = r) : um M a o p = r := by
  rw [um_ne h]; exact hp
theorem um_none {M : Hm} {p a : Addr} {o : MO} (h : um M a o p = none) : M p = none := by
  by_cases q : p = a
  · subst q; rw [um_same] at h; cases h
  · rw [um_ne q] at h; exact h
theorem um_noneN {M : Hm} {p a : Addr} {o : MO} (h : um M a o p = none) : p ≠ a := fun q => by
  subst q; rw [um_same] at h; cases h
/-- a new thing, seen from before -/
theorem sub_new {A B : Hm} {p : Addr} {o : MO} (h : Sub A B) (hp : B p = none) : Sub A (um B p o) := fun a o' e => um_old (h a o' e) hp
theorem ne_of_old {M : Hm} {p a : Addr} {o : MO} (hp : M p = some o) (ha : M a = none) : p ≠ a := fun e => by
  subst e; rw [hp] at ha; cases ha
theorem ne_of_old' {M : Hm} {p a : Addr} {o : MO} (hp : M p = some o) (ha : M a = none) : a ≠ p := fun e => by
  subst e; rw [hp] at ha; cases ha
section
variable {C : CE} {σ : SU} {M : Hm} {Q : QU} {T : Bool → Hm → Prop} {L : List U → Hm → Prop} {I : List U → (Hm → Prop) → ((Hm → Prop) → Hm → Prop) → Hm → Prop} {a b c d es : E} {i : Nat}
/-! ifs -/
theorem i_ift {A B : Prop} {k : Bool} (h : k = true) (q : A) : if k = true then A else B := by rw [if_pos h]; exact q
theorem i_iff {A B : Prop} {k : Bool} (h : k = false) (q : B) : if k = true then A else B := by rw [if_neg (by rw [h]; decide)]; exact q
theorem i_ifn {A B : Prop} {k : Bool} (q : if k = true then B else A) : if (!k) = true then A else B := by cases k <;> exact q
theorem i_ifd {A B P : Prop} {inst : Decidable P} (h1 : P → A) (h2 : ¬P → B) : if @decide P inst = true then A else B := by
  by_cases h : P
  · exact i_ift (@decide_eq_true P inst h) (h1 h)
  · exact i_iff (@decide_eq_false P inst h) (h2 h)
theorem i_ifdt {A B P : Prop} {inst : Decidable P} (h : P) (q : A) : if @decide P inst = true then A else B := i_ift (@decide_eq_true P inst h) q
theorem i_ifdf {A B P : Prop} {inst : Decidable P} (h : ¬P) (q : B) : if @decide P inst = true then A else B := i_iff (@decide_eq_false P inst h) q
theorem cmul_l {i j : Int} (h : -18446744073709551616 < i) (h2 : i < 18446744073709551616) : CMul i j := .inl ⟨h, h2⟩
theorem cmul_r {i j : Int} (h : -18446744073709551616 < j) (h2 : j < 18446744073709551616) : CMul i j := .inr ⟨h, h2⟩
theorem i_le {n : Nat} {R : Prop} (h : n ≤ LIM) (q : R) : n ≤ LIM ∧ R := ⟨h, q⟩
theorem i_lt {n : Nat} {R : Prop} (h : n < LIM) (q : R) : n < LIM ∧ R := ⟨h, q⟩
/-- what several ways come to -/
structure Hold (R : Prop) : Prop where
  out : R
/-! of what head a goal is: tried ahead of the rules of that head -/
theorem is_e {C : CE} {a : E} {σ : SU} {M : Hm} {Q : QU} (q : (w C a).e σ M Q) : (w C a).e σ M Q := q
theorem is_t {C : CE} {a : E} {σ : SU} {M : Hm} {T : Bool → Hm → Prop} (q : (w C a).t σ M T) : (w C a).t σ M T := q
theorem is_s {C : CE} {a : S} {k : EndsU} {σ : SU} {M : Hm} (q : wS C a k σ M) : wS C a k σ M := q
theorem is_b {f : Bfn} {xs : List U} {M : Hm} {Q : QU} (q : bltW f xs M Q) : bltW f xs M Q := q
/-! values -/
theorem i_var {u : U} (h : σ[i]? = some (some u)) (q : Q u M) : (w C (.var i)).e σ M Q := ⟨u, h, q⟩
theorem i_int {i : Int} (q : Q (.int i) M) : (w C (.int i)).e σ M Q := q
theorem i_str {i : Str} (q : Q (.str i) M) : (w C (.str i)).e σ M Q := q
theorem i_bl {i : Bool} (q : Q (.bl i) M) : (w C (.bl i)).e σ M Q := q
theorem i_non (q : Q .non M) : (w C .non).e σ M Q := q
theorem i_nil (q : L [] M) : (w C .nil).l σ M L := q
theorem i_cons (q : (w C a).e σ M fun x M1 => (w C b).l σ M1 fun xs M2 => L (x :: xs) M2) : (w C (.cons a b)).l σ M L := q
theorem i_tup (q : (w C es).l σ M fun xs M1 => xs.length ≤ LIM ∧ Q (.tup xs) M1) : (w C (.tup es)).e σ M Q := q
theorem i_dtup (q : (w C es).l σ M fun xs M1 => xs.length ≤ LIM ∧ Q (.dtp xs) M1) : (w C (.dtup es)).e σ M Q := q
theorem i_lst (q : (w C es).l σ M fun xs M1 => xs.length ≤ LIM ∧ ∀ p, M1 p = none → Q (.ref p) (um M1 p (.lst xs))) : (w C (.lst es)).e σ M Q := q
theorem i_dnew {t : Bool} (q : ∀ p, M p = none → Q (.ref p) (um M p (.dct false t []))) : (w C (.dnew t)).e σ M Q := q
theorem i_ddispN (q : ∀ p, M p = none → (w C a).e σ (um M p (.dcn [])) fun k M1 => (w C b).e σ M1 fun u M2 => M2 p = some (.dcn []) ∧ isKeyN k = true ∧ Q (.ref p) (um M2 p (.dcn [(k, u)]))) : (w C (.ddispN a b)).e σ M Q := q
theorem i_dnewN (q : ∀ p, M p = none → Q (.ref p) (um M p (.dcn []))) : (w C .dnewN).e σ M Q := q
theorem i_bin {op : Bop} (q : (w C a).e σ M fun x M1 => (w C b).e σ M1 fun y M2 => binW op x y M2 Q) : (w C (.bin op a b)).e σ M Q := q
theorem i_neg (q : (w C a).e σ M fun x M1 => ∃ i, x = .int i ∧ Q (.int (-i)) M1) : (w C (.neg a)).e σ M Q := q
theorem i_neg2 {j : Int} (q : Q (.int (-j)) M) : ∃ i, U.int j = .int i ∧ Q (.int (-i)) M := ⟨j, rfl, q⟩
theorem i_cmp {op : Cop} (q : (w C a).e σ M fun x M1 => (w C b).e σ M1 fun y M2 => cmpW op x y M2 fun k M3 => Q (.bl k) M3) : (w C (.cmp op a b)).e σ M Q := q
theorem i_chain {o p : Cop} (q : (w C a).e σ M fun x M1 => (w C b).e σ M1 fun y M2 => cmpW o x y M2 fun k M3 => if k = true then (w C c).e σ M3 fun z M4 => cmpW p y z M4 fun k M5 => Q (.bl k) M5 else Q (.bl false) M3) : (w C (.chain o p a b c)).e σ M Q := q
theorem i_isN (q : (w C a).e σ M fun x M1 => Q (.bl (decide (x = .non))) M1) : (w C (.isN a)).e σ M Q := q
theorem i_notN (q : (w C a).e σ M fun x M1 => Q (.bl (!decide (x = .non))) M1) : (w C (.notN a)).e σ M Q := q
theorem i_isB {b : Bool} (q : (w C a).e σ M fun x M1 => ∃ c, x = .bl c ∧ Q (.bl (decide (c = b))) M1) : (w C (.isB false b a)).e σ M Q := q
theorem i_isNB {b : Bool} (q : (w C a).e σ M fun x M1 => ∃ c, x = .bl c ∧ Q (.bl (!decide (c = b))) M1) : (w C (.isB true b a)).e σ M Q := q
theorem i_ands (q : (w C es).va σ M Q) : (w C (.ands es)).e σ M Q := q
theorem i_ors (q : (w C es).vo σ M Q) : (w C (.ors es)).e σ M Q := q
theorem i_not (q : (w C a).e σ M fun x M1 => truW x M1 fun b M2 => Q (.bl (!b)) M2) : (w C (.not a)).e σ M Q := q
theorem i_bW {f : WE} (q : f σ M fun x M1 => ∃ b, x = .bl b ∧ T b M1) : bW f σ M T := q
theorem i_exB {b : Bool} {R : Bool → Prop} (q : R b) : ∃ c, U.bl b = .bl c ∧ R c := ⟨b, rfl, q⟩
theorem i_exI {j : Int} {R : Int → Prop} (q : R j) : ∃ c, U.int j = .int c ∧ R c := ⟨j, rfl, q⟩
theorem i_exII {j k : Int} {R : Int → Int → Prop} (q : R j k) : ∃ a b, U.int j = .int a ∧ U.int k = .int b ∧ R a b := ⟨j, k, rfl, rfl, q⟩
theorem i_ite (q : (w C c).t σ M fun k M1 => if k = true then (w C a).e σ M1 Q else (w C b).e σ M1 Q) : (w C (.ite c a b)).e σ M Q := q
theorem i_ix (q : (w C a).e σ M fun x M1 => (w C b).e σ M1 fun y M2 => ixW x y M2 Q) : (w C (.ix a b)).e σ M Q := q
theorem i_dget (q : (w C a).e σ M fun x M1 => isDW x M1 ∧ (w C b).e σ M1 fun y M2 => (w C c).e σ M2 fun v M3 => dgetW x y v M3 Q) : (w C (.dget a b c)).e σ M Q := q
theorem i_dgetN (q : (w C a).e σ M fun x M1 => (∃ p ks, x = .ref p ∧ M1 p = some (.dcn ks)) ∧ (w C b).e σ M1 fun y M2 => (w C c).e σ M2 fun v M3 => dgetNW x y v M3 Q) : (w C (.dgetN a b c)).e σ M Q := q
theorem i_rcN {R : Prop} {p : Addr} {ks : List (U × U)} (hp : M p = some (.dcn ks)) (q : R) : (∃ p' ks', U.ref p = .ref p' ∧ M p' = some (.dcn ks')) ∧ R := ⟨⟨p, ks, rfl, hp⟩, q⟩
theorem i_dget1 (q : (w C a).e σ M fun x M1 => isDW x M1 ∧ (w C b).e σ M1 fun y M2 => dgetW x y .non M2 Q) : (w C (.dget1 a b)).e σ M Q := q
theorem t_dget (q : (w C a).e σ M fun x M1 => isDW x M1 ∧ (w C b).e σ M1 fun y M2 => (w C c).e σ M2 fun v M3 => dgetW x y v M3 fun u M4 => truW u M4 T) : (w C (.dget a b c)).t σ M T := q
theorem i_isD {R : Prop} {p : Addr} {z t : Bool} {ks : List (U × U)} (hp : M p = some (.dct z t ks)) (q : R) : isDW (.ref p) M ∧ R := ⟨⟨p, z, t, ks, rfl, hp⟩, q⟩
theorem d_getN {p : Addr} {ks : List (U × U)} {x v : U} (hp : M p = some (.dcn ks)) (hk : isKeyN x = true) (q : Q ((dfind ks x).getD v) M) : dgetNW (.ref p) x v M Q := ⟨p, ks, rfl, hp, hk, q⟩
theorem i_slice (q : (w C a).e σ M fun x M1 => partW b (w C b).e σ M1 fun l M2 => partW c (w C c).e σ M2 fun h M3 => sliceW x l h M3 Q) : (w C (.slice a b c)).e σ M Q := q
theorem i_part0 {f : WE} {O : Option Int → Hm → Prop} (q : O none M) : partW .nil f σ M O := q
theorem i_part1 {f : WE} {O : Option Int → Hm → Prop} (h : isNil a = false) (q : f σ M fun x M1 => ∃ i, x = .int i ∧ O (some i) M1) : partW a f σ M O := by
  unfold partW
  rw [if_neg (by rw [h]; decide)]
  exact q
theorem i_call {f : Nat} (q : (w C es).l σ M fun xs M1 => C f xs M1 Q) : (w C (.call f es)).e σ M Q := q
theorem i_blt {f : Bfn} (q : (w C es).l σ M fun xs M1 => bltW f xs M1 Q) : (w C (.blt f es)).e σ M Q := q
theorem i_mth {m : Mfn} (q : (w C a).e σ M fun x M1 => rcvW m x M1 ∧ (w C es).l σ M1 fun xs M2 => mthW m x xs M2 Q) : (w C (.mth m a es)).e σ M Q := q
theorem i_isinst {t : String} (q : (w C a).e σ M fun x M1 => isTyW x t M1 fun k M2 => Q (.bl k) M2) : (w C (.isinst a t)).e σ M Q := q
theorem i_compN {own : List (Str × Nat)} {tg : Tg} (q : (w C a).i σ M fun items g ex M1 => compL (fun x k M => tgW tg x (wipU σ tg.slots) fun σ2 => (w C c).e σ2 M fun y M3 => k (some y) M3) g (fun acc M => ex (fun M => ∀ p, M p = none → Q (.ref p) (um M p (.lst acc))) M) items [] M1) : (w C (.comp own tg a .nil c)).e σ M Q := by
  show compW _ _ _ _ _ _ _
  unfold compW
  simp only [isNil, if_true]
  exact q
theorem i_compC {own : List (Str × Nat)} {tg : Tg} (h : isNil b = false) (q : (w C a).i σ M fun items g ex M1 => compL (fun x k M => tgW tg x (wipU σ tg.slots) fun σ2 => (w C b).t σ2 M fun e M2 => if e = true then (w C c).e σ2 M2 fun y M3 => k (some y) M3 else k none M2) g (fun acc M => ex (fun M => ∀ p, M p = none → Q (.ref p) (um M p (.lst acc))) M) items [] M1) : (w C (.comp own tg a b c)).e σ M Q := by
  show compW _ _ _ _ _ _ _
  unfold compW
  simp only [h, Bool.false_eq_true, if_false]
  exact q
theorem i_dcomp0 {k v : E} {own : List (Str × Nat)} {tg : Tg} (q : (w C a).i σ M fun items g ex M1 => ∀ p, M1 p = none → g (um M1 p (.dcn [])) ∧ dcompL (fun x kk M => tgW tg x (wipU σ tg.slots) fun σ2 => (w C k).e σ2 M fun y M3 => (w C v).e σ2 M3 fun z M4 => dsetN p y z M4 kk) g (fun M => ex (fun M => Q (.ref p) M) M) items (um M1 p (.dcn []))) : (w C (.dcompN own tg a .nil k v)).e σ M Q := by
  show dcompW _ _ _ _ _ _ _ _
  unfold dcompW
  simp only [isNil, if_true]
  exact q
/-! tests -/
theorem t_var {u : U} (h : σ[i]? = some (some u)) (q : truW u M T) : (w C (.var i)).t σ M T := ⟨u, h, q⟩
theorem t_bl {i : Bool} (q : T i M) : (w C (.bl i)).t σ M T := q
theorem t_bin {op : Bop} (q : (w C a).e σ M fun x M1 => (w C b).e σ M1 fun y M2 => binW op x y M2 fun z M3 => truW z M3 T) : (w C (.bin op a b)).t σ M T := q
theorem t_ix (q : (w C a).e σ M fun x M1 => (w C b).e σ M1 fun y M2 => ixW x y M2 fun z M3 => truW z M3 T) : (w C (.ix a b)).t σ M T := q
theorem t_call {f : Nat} (q : (w C es).l σ M fun xs M1 => C f xs M1 fun z M2 => truW z M2 T) : (w C (.call f es)).t σ M T := q
theorem t_blt {f : Bfn} (q : (w C es).l σ M fun xs M1 => bltW f xs M1 fun z M2 => truW z M2 T) : (w C (.blt f es)).t σ M T := q
theorem t_cmp {op : Cop} (q : (w C a).e σ M fun x M1 => (w C b).e σ M1 fun y M2 => cmpW op x y M2 T) : (w C (.cmp op a b)).t σ M T := q
theorem t_chain {o p : Cop} (q : (w C a).e σ M fun x M1 => (w C b).e σ M1 fun y M2 => cmpW o x y M2 fun k M3 => if k = true then (w C c).e σ M3 fun z M4 => cmpW p y z M4 T else T false M3) : (w C (.chain o p a b c)).t σ M T := q
theorem t_isN (q : (w C a).e σ M fun x M1 => T (decide (x = .non)) M1) : (w C (.isN a)).t σ M T := q
theorem t_notN (q : (w C a).e σ M fun x M1 => T (!decide (x = .non)) M1) : (w C (.notN a)).t σ M T := q
theorem t_isB {b : Bool} (q : (w C a).e σ M fun x M1 => ∃ c, x = .bl c ∧ T (decide (c = b)) M1) : (w C (.isB false b a)).t σ M T := q
theorem t_isNB {b : Bool} (q : (w C a).e σ M fun x M1 => ∃ c, x = .bl c ∧ T (!decide (c = b)) M1) : (w C (.isB true b a)).t σ M T := q
theorem t_ands (q : (w C es).ta σ M T) : (w C (.ands es)).t σ M T := q
theorem t_ors (q : (w C es).to σ M T) : (w C (.ors es)).t σ M T := q
theorem t_not (q : (w C a).t σ M fun b M1 => T (!b) M1) : (w C (.not a)).t σ M T := q
theorem t_isinst {t : String} (q : (w C a).e σ M fun x M1 => isTyW x t M1 T) : (w C (.isinst a t)).t σ M T := q
theorem ta_1 (q : (w C a).t σ M T) : (w C (.cons a .nil)).ta σ M T := q
theorem ta_2 (q : (w C a).t σ M fun c M1 => if c = true then (w C (.cons b d)).ta σ M1 T else T false M1) : (w C (.cons a (.cons b d))).ta σ M T := q
theorem to_1 (q : (w C a).t σ M T) : (w C (.cons a .nil)).to σ M T := q
theorem to_2 (q : (w C a).t σ M fun c M1 => if c = true then T true M1 else (w C (.cons b d)).to σ M1 T) : (w C (.cons a (.cons b d))).to σ M T := q
theorem va_1 (q : (w C a).e σ M Q) : (w C (.cons a .nil)).va σ M Q := q
theorem va_2 (q : (w C a).e σ M fun x M1 => ∃ k, x = .bl k ∧ if k = true then (w C (.cons b d)).va σ M1 Q else Q (.bl false) M1) : (w C (.cons a (.cons b d))).va σ M Q := q
theorem vo_1 (q : (w C a).e σ M Q) : (w C (.cons a .nil)).vo σ M Q := q
theorem vo_2 (q : (w C a).e σ M fun x M1 => ∃ k, x = .bl k ∧ if k = true then Q (.bl true) M1 else (w C (.cons b d)).vo σ M1 Q) : (w C (.cons a (.cons b d))).vo σ M Q := q
/-! operations -/
theorem o_add {i j : Int} (q : Q (.int (i + j)) M) : binW .add (.int i) (.int j) M Q := q
theorem o_sub {i j : Int} (q : Q (.int (i - j)) M) : binW .sub (.int i) (.int j) M Q := q
theorem o_mul {i j : Int} (h : CMul i j) (q : Q (.int (i * j)) M) : binW .mul (.int i) (.int j) M Q := ⟨h, q⟩
theorem o_fdiv {i j : Int} (h : CDiv i j) (q : Q (.int (i / j)) M) : binW .fdiv (.int i) (.int j) M Q := ⟨h, q⟩
theorem o_mod {i j : Int} (h : 0 < j) (q : Q (.int (i % j)) M) : binW .mod (.int i) (.int j) M Q := ⟨h, q⟩
theorem o_pow {i j : Int} (h : CPow i j) (q : Q (.int (i ^ j.toNat)) M) : binW .pow (.int i) (.int j) M Q := ⟨h, q⟩
theorem o_shl {i j : Int} (h : CPow i j) (q : Q (.int (i * 2 ^ j.toNat)) M) : binW .shl (.int i) (.int j) M Q := ⟨h, q⟩
theorem o_addT {x y : List U} (h : x.length + y.length ≤ LIM) (q : Q (.tup (x ++ y)) M) : binW .add (.tup x) (.tup y) M Q := ⟨h, q⟩
theorem o_addL {p r : Addr} {us ws : List U} (hp : M p = some (.lst us)) (hr : M r = some (.lst ws)) (h : us.length + ws.length ≤ LIM) (q : ∀ a, M a = none → Q (.ref a) (um M a (.lst (us ++ ws)))) : binW .add (.ref p) (.ref r) M Q := ⟨us, ws, hp, hr, h, q⟩
theorem c_eq {x y : U} (q : eqW x y M T) : cmpW .eq x y M T := q
theorem c_ne {x y : U} (q : eqW x y M fun b M => T (!b) M) : cmpW .ne x y M T := q
theorem c_lt {i j : Int} (q : T (decide (i < j)) M) : cmpW .lt (.int i) (.int j) M T := q
theorem c_le {i j : Int} (q : T (decide (i ≤ j)) M) : cmpW .le (.int i) (.int j) M T := q
theorem c_gt {i j : Int} (q : T (decide (j < i)) M) : cmpW .gt (.int i) (.int j) M T := q
theorem c_ge {i j : Int} (q : T (decide (j ≤ i)) M) : cmpW .ge (.int i) (.int j) M T := q
theorem c_in {x y : U} (q : inW false x y M T) : cmpW .isin x y M T := q
theorem c_nin {x y : U} (q : inW true x y M T) : cmpW .notin x y M T := q
theorem eq_bl {a b : Bool} (q : T (decide (a = b)) M) : eqW (.bl a) (.bl b) M T := by
  have e : (a == b) = decide (a = b) := by cases a <;> cases b <;> rfl
  show T (a == b) M
  rw [e]; exact q
theorem eq_int {a b : Int} (q : T (decide (a = b)) M) : eqW (.int a) (.int b) M T := q
theorem eq_str {a b : Str} (q : T (decide (a = b)) M) : eqW (.str a) (.str b) M T := q
theorem eq_tup {a b : List U} (ha : okU (.tup a) = true) (hb : okU (.tup b) = true) (q : T (decide (U.tup a = U.tup b)) M) : eqW (.tup a) (.tup b) M T := ⟨ha, hb, q⟩
theorem in_lst {x : U} {p : Addr} {us : List U} (hp : M p = some (.lst us)) (h1 : okU x = true) (h2 : okL us = true) (q : T (decide (x ∈ us)) M) : inW false x (.ref p) M T := .inl ⟨us, hp, h1, h2, q⟩
theorem nin_lst {x : U} {p : Addr} {us : List U} (hp : M p = some (.lst us)) (h1 : okU x = true) (h2 : okL us = true) (q : T (!decide (x ∈ us)) M) : inW true x (.ref p) M T := .inl ⟨us, hp, h1, h2, q⟩
theorem nin_tupD {x : U} {us : List U} (h1 : okU x = true) (h2 : okL us = true) (q : T (!decide (x ∈ us)) M) : inW true x (.tup us) M T := ⟨h1, h2, q⟩
theorem in_dcn {x : U} {p : Addr} {ks : List (U × U)} (hp : M p = some (.dcn ks)) (h1 : isKeyN x = true) (q : T (dfind ks x).isSome M) : inW false x (.ref p) M T := .inr (.inr ⟨ks, hp, h1, q⟩)
theorem nin_dcn {x : U} {p : Addr} {ks : List (U × U)} (hp : M p = some (.dcn ks)) (h1 : isKeyN x = true) (q : T (!(dfind ks x).isSome) M) : inW true x (.ref p) M T := .inr (.inr ⟨ks, hp, h1, q⟩)
theorem tr_bl {b : Bool} (q : T b M) : truW (.bl b) M T := q
theorem tr_int {i : Int} (q : T (!decide (i = 0)) M) : truW (.int i) M T := by
  have e : (i != 0) = !decide (i = 0) := rfl
  show T (i != 0) M
  rw [e]; exact q
theorem emp_dec {α : Type} (l : List α) [Decidable (l = [])] : l.isEmpty = decide (l = []) := by cases l <;> simp
theorem tr_tup {l : List U} (q : T (!decide (l = [])) M) : truW (.tup l) M T := by
  show T (!l.isEmpty) M
  rw [emp_dec]; exact q
theorem tr_non (q : T false M) : truW .non M T := q
theorem tr_lst {p : Addr} {us : List U} (hp : M p = some (.lst us)) (q : T (!decide (us = [])) M) : truW (.ref p) M T := .inl ⟨us, hp, by rw [emp_dec]; exact q⟩
theorem tr_dct {p : Addr} {ks : List (U × U)} (hp : M p = some (.dct false false ks)) (q : T (!decide (ks = [])) M) : truW (.ref p) M T := .inr ⟨ks, hp, by rw [emp_dec]; exact q⟩
theorem x_tup {l : List U} {j : Int} {v : U} (h : atI l j = some v) (q : Q v M) : ixW (.tup l) (.int j) M Q := ⟨j, v, rfl, h, q⟩
theorem x_lst {p : Addr} {us : List U} {j : Int} {v : U} (hp : M p = some (.lst us)) (h : atI us j = some v) (q : Q v M) : ixW (.ref p) (.int j) M Q := .inl ⟨us, j, v, hp, rfl, h, q⟩
theorem x_dcn {p : Addr} {ks : List (U × U)} {x v : U} (hp : M p = some (.dcn ks)) (hk : isKeyN x = true) (h : dfind ks x = some v) (q : Q v M) : ixW (.ref p) x M Q := .inr (.inr ⟨ks, v, hp, hk, h, q⟩)
theorem g_lst {p : Addr} {us : List U} {j : Int} {v : U} (hp : M p = some (.lst us)) (h : atI us j = some v) (q : Q v M) : getW (.ref p) (.int j) M Q := .inl ⟨us, j, v, hp, rfl, h, q⟩
theorem sl_tup {l : List U} {x y : Option Int} (q : Q (.tup (cutU l x y)) M) : sliceW (.tup l) x y M Q := q
theorem sl_lst {p : Addr} {us : List U} {x y : Option Int} (hp : M p = some (.lst us)) (q : ∀ a, M a = none → Q (.ref a) (um M a (.lst (cutU us x y)))) : sliceW (.ref p) x y M Q := ⟨us, hp, q⟩
theorem st_lst {p : Addr} {us : List U} {j : Int} {k : Nat} {v : U} {R : Hm → Prop} (hp : M p = some (.lst us)) (h : ixN us.length j = some k) (q : R (um M p (.lst (us.set k v)))) : setW (.ref p) (.int j) v M R := .inl ⟨us, j, k, hp, rfl, h, q⟩
theorem st_dcn {p : Addr} {ks : List (U × U)} {x v : U} {R : Hm → Prop} (hp : M p = some (.dcn ks)) (hk : isKeyN x = true) (hl : ks.length < LIM) (q : R (um M p (.dcn (dput ks x v)))) : setW (.ref p) x v M R := .inr (.inr ⟨ks, hp, hk, hl, q⟩)
theorem f_lenT {l : List U} (q : Q (.int l.length) M) : bltW .len [.tup l] M Q := q
theorem f_lenL {p : Addr} {us : List U} (hp : M p = some (.lst us)) (q : Q (.int us.length) M) : bltW .len [.ref p] M Q := .inl ⟨us, hp, q⟩
theorem f_lenD {p : Addr} {ks : List (U × U)} (hp : M p = some (.dct false false ks)) (q : Q (.int ks.length) M) : bltW .len [.ref p] M Q := .inr ⟨ks, hp, q⟩
theorem f_listT {l : List U} (q : ∀ a, M a = none → Q (.ref a) (um M a (.lst l))) : bltW .list [.tup l] M Q := q
theorem f_listL {p : Addr} {us : List U} (hp : M p = some (.lst us)) (q : ∀ a, M a = none → Q (.ref a) (um M a (.lst us))) : bltW .list [.ref p] M Q := .inl ⟨us, hp, q⟩
theorem f_listD {p : Addr} {ks : List (U × U)} (hp : M p = some (.dct false false ks)) (q : ∀ a, M a = none → Q (.ref a) (um M a (.lst (ks.map (·.1))))) : bltW .list [.ref p] M Q := .inr (.inl ⟨ks, hp, q⟩)
theorem f_listN {p : Addr} {ks : List (U × U)} (hp : M p = some (.dcn ks)) (q : ∀ a, M a = none → Q (.ref a) (um M a (.lst (ks.map (·.1))))) : bltW .list [.ref p] M Q := .inr (.inr ⟨ks, hp, q⟩)
theorem f_sortL {p : Addr} {us : List U} (hp : M p = some (.lst us)) (ok : sortOk us) (q : ∀ a, M a = none → Q (.ref a) (um M a (.lst (sortU us)))) : bltW .sorted [.ref p] M Q := .inl ⟨us, hp, ok, q⟩
theorem f_tupT {l : List U} (q : Q (.tup l) M) : bltW .tuple [.tup l] M Q := q
theorem f_tupL {p : Addr} {us : List U} (hp : M p = some (.lst us)) (q : Q (.tup us) M) : bltW .tuple [.ref p] M Q := ⟨us, hp, q⟩
theorem f_int {i : Int} (q : Q (.int i) M) : bltW .int [.int i] M Q := q
theorem f_intB {b : Bool} (q : Q (.int (if b then 1 else 0)) M) : bltW .int [.bl b] M Q := q
theorem f_abs {i : Int} (q : Q (.int (if i < 0 then -i else i)) M) : bltW .abs [.int i] M Q := q
theorem f_max {i j : Int} (q : Q (.int (if j > i then j else i)) M) : bltW .max [.int i, .int j] M Q := q
theorem f_min {i j : Int} (q : Q (.int (if j < i then j else i)) M) : bltW .min [.int i, .int j] M Q := q
theorem m_app {p : Addr} {us : List U} {x : U} (hp : M p = some (.lst us)) (hl : us.length < LIM) (q : Q .non (um M p (.lst (us ++ [x])))) : mthW .append (.ref p) [x] M Q := ⟨us, hp, hl, q⟩
theorem i_rcvR {R : Prop} {p : Addr} {ks : List (U × U)} (hp : M p = some (.dct false true ks)) (q : R) : rcvW .pop2 (.ref p) M ∧ R := ⟨⟨p, ks, rfl, hp⟩, q⟩
theorem m_popAt {p : Addr} {us : List U} {i : Int} {k : Nat} {x : U} (hp : M p = some (.lst us)) (hl : us.length ≤ LIM) (hi : ixN us.length i = some k) (hk : us[k]? = some x) (q : Q x (um M p (.lst (us.eraseIdx k)))) : mthW .popAt (.ref p) [.int i] M Q := ⟨us, k, x, hp, hl, hi, hk, q⟩
theorem i_rcvX {R : Prop} {p : Addr} {us : List U} (hp : M p = some (.lst us)) (q : R) : rcvW .index (.ref p) M ∧ R := ⟨⟨p, us, rfl, hp⟩, q⟩
theorem r_app {p : Addr} {us : List U} (hp : M p = some (.lst us)) : rcvW .append (.ref p) M := ⟨p, us, rfl, hp⟩
theorem r_ext {p : Addr} {us : List U} (hp : M p = some (.lst us)) : rcvW .extend (.ref p) M := ⟨p, us, rfl, hp⟩
theorem r_pop {p : Addr} {us : List U} (hp : M p = some (.lst us)) : rcvW .pop (.ref p) M := ⟨p, us, rfl, hp⟩
theorem r_popAt {p : Addr} {us : List U} (hp : M p = some (.lst us)) : rcvW .popAt (.ref p) M := ⟨p, us, rfl, hp⟩
theorem i_rcvA {R : Prop} {p : Addr} {us : List U} (hp : M p = some (.lst us)) (q : R) : rcvW .append (.ref p) M ∧ R := ⟨r_app hp, q⟩
theorem i_rcvE {R : Prop} {p : Addr} {us : List U} (hp : M p = some (.lst us)) (q : R) : rcvW .extend (.ref p) M ∧ R := ⟨r_ext hp, q⟩
theorem i_rcvP {R : Prop} {p : Addr} {us : List U} (hp : M p = some (.lst us)) (q : R) : rcvW .pop (.ref p) M ∧ R := ⟨r_pop hp, q⟩
theorem i_rcvQ {R : Prop} {p : Addr} {us : List U} (hp : M p = some (.lst us)) (q : R) : rcvW .popAt (.ref p) M ∧ R := ⟨r_popAt hp, q⟩
theorem y_non {t : String} (q : T (t == "NoneType") M) : isTyW .non t M T := q
theorem y_bl {t : String} {b : Bool} (q : T (t == "bool" || t == "int") M) : isTyW (.bl b) t M T := q
theorem y_int {t : String} {i : Int} (q : T (t == "int") M) : isTyW (.int i) t M T := q
theorem y_str {t : String} {x : Str} (q : T (t == "str") M) : isTyW (.str x) t M T := q
theorem y_tup {t : String} {l : List U} (q : T (t == "tuple") M) : isTyW (.tup l) t M T := q
theorem y_lst {t : String} {p : Addr} {us : List U} (hp : M p = some (.lst us)) (q : T (t == "list") M) : isTyW (.ref p) t M T := ⟨us, hp, q⟩
/-! what is walked -/
theorem w_seq (q : (w C a).e σ M fun x M1 => seqI x M1 I) : (w C (.iSeq a)).i σ M I := q
theorem w_rng (q : (w C a).e σ M fun x M1 => ∃ n, x = .int n ∧ n ≤ LIM ∧ -LIM ≤ n ∧ I (rngU 0 n) (fun _ => True) (fun P => P) M1) : (w C (.iRange a)).i σ M I := q
theorem w_rng2 (q : (w C a).e σ M fun x M1 => (w C b).e σ M1 fun y M2 => ∃ m n, x = .int m ∧ y = .int n ∧ -LIM ≤ m ∧ m ≤ LIM ∧ n ≤ LIM ∧ -LIM ≤ n ∧ I (rngU m n) (fun _ => True) (fun P => P) M2) : (w C (.iRange2 a b)).i σ M I := q
theorem w_zip (q : (w C a).e σ M fun x M1 => (w C b).e σ M1 fun y M2 => zipI x y M2 I) : (w C (.iZip a b)).i σ M I := q
theorem zi_tt {l r : List U} (q : I (zipU l r) (fun _ => True) (fun P => P) M) : zipI (.tup l) (.tup r) M I := .inl ⟨l, r, rfl, rfl, q⟩
theorem zi_dt {l r : List U} (q : I (zipU l r) (fun _ => True) (fun P => P) M) : zipI (.dtp l) (.tup r) M I := .inl ⟨l, r, rfl, rfl, q⟩
theorem zi_td {l r : List U} (q : I (zipU l r) (fun _ => True) (fun P => P) M) : zipI (.tup l) (.dtp r) M I := .inl ⟨l, r, rfl, rfl, q⟩
theorem zi_dd {l r : List U} (q : I (zipU l r) (fun _ => True) (fun P => P) M) : zipI (.dtp l) (.dtp r) M I := .inl ⟨l, r, rfl, rfl, q⟩
theorem w_enum (q : (w C a).e σ M fun x M1 => seqI x M1 fun us g ex M2 => I (enumU us) g ex M2) : (w C (.iEnum a)).i σ M I := q
theorem w_rev (q : (w C a).e σ M fun x M1 => revI x M1 I) : (w C (.iRev a)).i σ M I := q
theorem r_tup {l : List U} (q : I l.reverse (fun _ => True) (fun P => P) M) : revI (.tup l) M I := q
theorem r_dtp {l : List U} (q : I l.reverse (fun _ => True) (fun P => P) M) : revI (.dtp l) M I := q
theorem r_lst {p : Addr} {us : List U} (hp : M p = some (.lst us)) (q : I us.reverse (fun M' => M' p = some (.lst us)) (fun P => P) M) : revI (.ref p) M I := ⟨us, hp, q⟩
theorem s_tup {l : List U} (q : I l (fun _ => True) (fun P => P) M) : seqI (.tup l) M I := q
theorem s_rol {l : List U} (q : I l (fun _ => True) (fun P => P) M) : seqI (.rol l) M I := q
theorem s_lst {p : Addr} {us : List U} (hp : M p = some (.lst us)) (q : I us (fun M' => M' p = some (.lst us)) (fun P => P) M) : seqI (.ref p) M I := ⟨us, hp, q⟩
/-! statements -/
variable {nx : SU → Hm → Prop} {rt : QU} {bk ct : SU → Hm → Prop} {x y z : S}
theorem z_skip (q : nx σ M) : wS C .skip ⟨nx, rt, bk, ct⟩ σ M := q
theorem z_seq (q : wS C x ⟨wS C y ⟨nx, rt, bk, ct⟩, rt, bk, ct⟩ σ M) : wS C (.seq x y) ⟨nx, rt, bk, ct⟩ σ M := q
theorem z_asg (q : (w C a).e σ M fun x M1 => nx (σ.set i (some x)) M1) : wS C (.asg i a) ⟨nx, rt, bk, ct⟩ σ M := q
theorem z_asgT {is : List Nat} (q : (w C a).e σ M fun x M1 => ∃ l σ', x = .tup l ∧ setAll is l σ = some σ' ∧ nx σ' M1) : wS C (.asgT is a) ⟨nx, rt, bk, ct⟩ σ M := q
theorem z_asgT2 {is : List Nat} {l : List U} {σ' : SU} (h : setAll is l σ = some σ') (q : nx σ' M) : ∃ l' σ', U.tup l = .tup l' ∧ setAll is l' σ = some σ' ∧ nx σ' M := ⟨l, σ', rfl, h, q⟩
theorem z_asgU {is : List Nat} (q : (w C a).e σ M fun x M1 => ∃ p l σ', x = .ref p ∧ M1 p = some (.lst l) ∧ setAll is l σ = some σ' ∧ nx σ' M1) : wS C (.asgU is a) ⟨nx, rt, bk, ct⟩ σ M := q
theorem z_asgU2 {is : List Nat} {p : Addr} {l : List U} {σ' : SU} (hp : M p = some (.lst l)) (h : setAll is l σ = some σ') (q : nx σ' M) : ∃ p' l' σ', U.ref p = .ref p' ∧ M p' = some (.lst l') ∧ setAll is l' σ = some σ' ∧ nx σ' M := ⟨p, l, σ', rfl, hp, h, q⟩
theorem z_setIx (q : (w C c).e σ M fun v M1 => (w C a).e σ M1 fun x M2 => (w C b).e σ M2 fun y M3 => setW x y v M3 (nx σ)) : wS C (.setIx a b c) ⟨nx, rt, bk, ct⟩ σ M := q
theorem z_delIx (q : (w C a).e σ M fun x M1 => (w C b).e σ M1 fun y M2 => ∃ p ks, x = .ref p ∧ M2 p = some (.dct false false ks) ∧ isKey y = true ∧ (dfind ks y).isSome = true ∧ nx σ (um M2 p (.dct false false (ddrop ks y)))) : wS C (.delIx a b) ⟨nx, rt, bk, ct⟩ σ M := q
theorem z_augV {op : Bop} {x : Int} (h : σ[i]? = some (some (.int x))) (q : (w C a).e σ M fun y M1 => ∃ b, y = .int b ∧ binW op (.int x) (.int b) M1 fun z M2 => nx (σ.set i (some z)) M2) : wS C (.augV i op a) ⟨nx, rt, bk, ct⟩ σ M := ⟨_, h, by
  have e : ∀ y M1, (∃ b, y = .int b ∧ binW op (.int x) (.int b) M1 fun z M2 => nx (σ.set i (some z)) M2) = (∃ a b, U.int x = .int a ∧ y = .int b ∧ binW op (.int x) y M1 fun z M2 => nx (σ.set i (some z)) M2) := fun y M1 => propext ⟨fun ⟨b, e, q⟩ => ⟨x, b, rfl, e, by rw [e]; exact q⟩, fun ⟨a, b, _, e, q⟩ => ⟨b, e, by rw [e] at q; exact q⟩⟩
  simp only [e] at q
  exact q⟩
theorem z_augIx {op : Bop} (q : (w C a).e σ M fun x M1 => (w C b).e σ M1 fun y M2 => getW x y M2 fun v M3 => (w C c).e σ M3 fun z M4 => ∃ a b, v = .int a ∧ z = .int b ∧ binW op v z M4 fun r M5 => setW x y r M5 (nx σ)) : wS C (.augIx a b op c) ⟨nx, rt, bk, ct⟩ σ M := q
theorem z_ifs (q : (w C c).t σ M fun k M1 => if k = true then wS C x ⟨nx, rt, bk, ct⟩ σ M1 else wS C y ⟨nx, rt, bk, ct⟩ σ M1) : wS C (.ifs c x y) ⟨nx, rt, bk, ct⟩ σ M := q
theorem z_for {tg : Tg} (q : (w C a).i σ M fun items g ex M1 => forL (fun u k σ M => tgW tg u σ fun σ2 => wS C x ⟨k, fun u M => ex (rt u) M, fun σ M => ex (nx σ) M, k⟩ σ2 M) g (fun σ M => ex (nx σ) M) items σ M1) : wS C (.for_ tg a x) ⟨nx, rt, bk, ct⟩ σ M := q
theorem z_ret (q : (w C a).e σ M rt) : wS C (.ret a) ⟨nx, rt, bk, ct⟩ σ M := q
theorem z_retN (q : rt .non M) : wS C .retN ⟨nx, rt, bk, ct⟩ σ M := q
theorem z_brk (q : bk σ M) : wS C .brk ⟨nx, rt, bk, ct⟩ σ M := q
theorem z_cnt (q : ct σ M) : wS C .cnt ⟨nx, rt, bk, ct⟩ σ M := q
theorem z_expr (q : (w C a).e σ M fun _ M1 => nx σ M1) : wS C (.expr a) ⟨nx, rt, bk, ct⟩ σ M := q
theorem tg_one {u : U} {R : SU → Prop} (q : R (σ.set i (some u))) : tgW (.one i) u σ R := q
theorem tg_many {is : List Nat} {l : List U} {σ' : SU} {R : SU → Prop} (h : setAll is l σ = some σ') (q : R σ') : tgW (.many is) (.tup l) σ R := ⟨l, σ', rfl, h, q⟩
end
/-- a loop by what holds between: what is done, what is left -/
theorem forL_by {α : Type} {enc : α → U} {step : U → (SU → Hm → Prop) → SU → Hm → Prop} {g : Hm → Prop} {fin : SU → Hm → Prop} (I : List α → List α → SU → Hm → Prop) (l : List α) {σ : SU} {M : Hm} (h0 : I [] l σ M)
    (h1 : ∀ don x rest σ M (k : SU → Hm → Prop), don ++ x :: rest = l → I don (x :: rest) σ M → (∀ σ' M', g M' → I (don ++ [x]) rest σ' M' → k σ' M') → step (enc x) k σ M)
    (h2 : ∀ σ M, I l [] σ M → fin σ M) : forL step g fin (l.map enc) σ M := by
  suffices h : ∀ (rest don : List α) σ M, don ++ rest = l → I don rest σ M → forL step g fin (rest.map enc) σ M from h l [] σ M rfl h0
  intro rest
  induction rest with
  | nil =>
    intro don σ M e h
    rw [List.append_nil] at e
    subst e
    exact h2 σ M h
  | cons x rest ih =>
    intro don σ M e h
    exact h1 don x rest σ M _ e h fun σ' M' hg hi => ⟨hg, ih (don ++ [x]) σ' M' (by rw [List.append_assoc]; exact e) hi⟩
theorem compL_by {α : Type} {enc : α → U} {step : U → (Option U → Hm → Prop) → Hm → Prop} {g : Hm → Prop} {fin : List U → Hm → Prop} (I : List α → List α → List U → Hm → Prop) (l : List α) {acc : List U} {M : Hm} (h0 : I [] l acc M)
    (h1 : ∀ don x rest acc M (k : Option U → Hm → Prop), don ++ x :: rest = l → I don (x :: rest) acc M → (∀ o M', g M' → (o.isSome = true → acc.length < LIM) → I (don ++ [x]) rest (acc ++ o.toList) M' → k o M') → step (enc x) k M)
    (h2 : ∀ acc M, I l [] acc M → fin acc M) : compL step g fin (l.map enc) acc M := by
  suffices h : ∀ (rest don : List α) acc M, don ++ rest = l → I don rest acc M → compL step g fin (rest.map enc) acc M from h l [] acc M rfl h0
  intro rest
  induction rest with
  | nil =>
    intro don acc M e h
    rw [List.append_nil] at e
    subst e
    exact h2 acc M h
  | cons x rest ih =>
    intro don acc M e h
    exact h1 don x rest acc M _ e h fun o M' hg hl hi => ⟨hg, hl, ih (don ++ [x]) _ M' (by rw [List.append_assoc]; exact e) hi⟩
end Pl

set_option maxHeartbeats 400000
/-! steps for instances and their like -/
namespace Pl
open PySem L2
section
variable {C : CE} {σ : SU} {M : Hm} {Q : QU} {T : Bool → Hm → Prop} {L : List U → Hm → Prop} {a b c d es : E} {i : Nat}
theorem i_fld {f : Str} (q : (w C a).e σ M fun x M1 => ∃ p c fs v, x = .ref p ∧ M1 p = some (.obj c fs) ∧ fs.lookup f = some v ∧ Q v M1) : (w C (.fld f a)).e σ M Q := q
theorem t_fld {f : Str} (q : (w C a).e σ M fun x M1 => ∃ p c fs v, x = .ref p ∧ M1 p = some (.obj c fs) ∧ fs.lookup f = some v ∧ truW v M1 T) : (w C (.fld f a)).t σ M T := q
theorem i_isF {f cn : Str} {p : Addr} {fs : List (Str × U)} {v : U} {R : U → Prop} (hp : M p = some (.obj cn fs)) (hl : fs.lookup f = some v) (q : R v) : ∃ p' c' fs' v', U.ref p = .ref p' ∧ M p' = some (.obj c' fs') ∧ fs'.lookup f = some v' ∧ R v' := ⟨p, cn, fs, v, rfl, hp, hl, q⟩
theorem i_meth {cn m : Str} {f : Nat} (q : (w C a).e σ M fun x M1 => (∃ p fs, x = .ref p ∧ M1 p = some (.obj cn fs) ∧ fs.lookup m = none) ∧ (w C es).l σ M1 fun xs M2 => C f (x :: xs) M2 Q) : (w C (.meth cn m f a es)).e σ M Q := q
theorem t_meth {cn m : Str} {f : Nat} (q : (w C a).e σ M fun x M1 => (∃ p fs, x = .ref p ∧ M1 p = some (.obj cn fs) ∧ fs.lookup m = none) ∧ (w C es).l σ M1 fun xs M2 => C f (x :: xs) M2 fun u M3 => truW u M3 T) : (w C (.meth cn m f a es)).t σ M T := q
theorem i_isO {cn m : Str} {R : Prop} {p : Addr} {fs : List (Str × U)} (hp : M p = some (.obj cn fs)) (hl : fs.lookup m = none) (q : R) : (∃ p' fs', U.ref p = .ref p' ∧ M p' = some (.obj cn fs') ∧ fs'.lookup m = none) ∧ R := ⟨⟨p, fs, rfl, hp, hl⟩, q⟩
theorem i_make {cn : Str} {f : Nat} (q : (w C es).l σ M fun xs M1 => ∀ p, M1 p = none → C f (.ref p :: xs) (um M1 p (.obj cn [])) fun u M2 => u = .non ∧ Q (.ref p) M2) : (w C (.make cn f es)).e σ M Q := q
theorem i_prop {cn m : Str} {f : Nat} (q : (w C a).e σ M fun x M1 => (∃ p fs, x = .ref p ∧ M1 p = some (.obj cn fs)) ∧ C f [x] M1 Q) : (w C (.prop cn m f a)).e σ M Q := q
theorem t_prop {cn m : Str} {f : Nat} (q : (w C a).e σ M fun x M1 => (∃ p fs, x = .ref p ∧ M1 p = some (.obj cn fs)) ∧ C f [x] M1 fun u M3 => truW u M3 T) : (w C (.prop cn m f a)).t σ M T := q
theorem i_isQ {cn : Str} {R : Prop} {p : Addr} {fs : List (Str × U)} (hp : M p = some (.obj cn fs)) (q : R) : (∃ p' fs', U.ref p = .ref p' ∧ M p' = some (.obj cn fs')) ∧ R := ⟨⟨p, fs, rfl, hp⟩, q⟩
theorem i_setdef (q : (w C a).e σ M fun x M1 => isDW x M1 ∧ (w C b).e σ M1 fun y M2 => (w C c).e σ M2 fun v M3 => setdefW x y v M3 Q) : (w C (.setdef a b c)).e σ M Q := q
theorem i_lrng1 {t : Bool} (q : (w C b).e σ M fun y M2 => ∃ n, y = .int n ∧ n ≤ LIM ∧ -LIM ≤ n ∧ if t = true then Q (.tup (rngU 0 n)) M2 else ∀ p, M2 p = none → Q (.ref p) (um M2 p (.lst (rngU 0 n)))) : (w C (.lrng t .nil b)).e σ M Q := by
  refine (?_ : partW .nil (w C .nil).e σ M fun lo M1 => (w C b).e σ M1 fun y M2 => ∃ n, y = .int n ∧ n ≤ LIM ∧ -LIM ≤ n ∧ lo.getD 0 ≤ LIM ∧ -LIM ≤ lo.getD 0 ∧ if t = true then Q (.tup (rngU (lo.getD 0) n)) M2 else ∀ p, M2 p = none → Q (.ref p) (um M2 p (.lst (rngU (lo.getD 0) n))))
  unfold partW
  rw [if_pos (show isNil .nil = true from rfl)]
  have e : (fun (y : U) (M2 : Hm) => ∃ n : Int, y = .int n ∧ n ≤ LIM ∧ -LIM ≤ n ∧ if t = true then Q (.tup (rngU 0 n)) M2 else ∀ p, M2 p = none → Q (.ref p) (um M2 p (.lst (rngU 0 n)))) =
      fun y M2 => ∃ n : Int, y = .int n ∧ n ≤ LIM ∧ -LIM ≤ n ∧ ((none : Option Int).getD 0) ≤ LIM ∧ -LIM ≤ ((none : Option Int).getD 0) ∧ if t = true then Q (.tup (rngU ((none : Option Int).getD 0) n)) M2 else ∀ p, M2 p = none → Q (.ref p) (um M2 p (.lst (rngU ((none : Option Int).getD 0) n))) := by
    funext y M2
    refine propext ⟨fun ⟨(n : Int), h1, h2, h3, h4⟩ => ⟨n, h1, h2, h3, by show (0 : Int) ≤ _; unfold LIM; omega, by show _ ≤ (0 : Int); unfold LIM; omega, h4⟩, fun ⟨(n : Int), h1, h2, h3, _, _, h4⟩ => ⟨n, h1, h2, h3, h4⟩⟩
  rw [e] at q
  exact q
theorem i_tidx (q : (w C a).e σ M fun x M1 => (∃ l, x = .dtp l) ∧ (w C b).e σ M1 fun y M2 => tidxW x y M2 Q) : (w C (.tidx a b)).e σ M Q := q
theorem i_isT {l : List U} {R : Prop} (q : R) : (∃ l', U.dtp l = .dtp l') ∧ R := ⟨⟨l, rfl⟩, q⟩
theorem tr_dtp {l : List U} (q : T (!decide (l = [])) M) : truW (.dtp l) M T := by
  show T (!l.isEmpty) M
  rw [emp_dec]; exact q
theorem x_dtp {l : List U} {j : Int} {v : U} (h : atI l j = some v) (q : Q v M) : ixW (.dtp l) (.int j) M Q := ⟨j, v, rfl, h, q⟩
theorem f_lenU {l : List U} (q : Q (.int l.length) M) : bltW .len [.dtp l] M Q := q
theorem f_listU {l : List U} (q : ∀ a, M a = none → Q (.ref a) (um M a (.lst l))) : bltW .list [.dtp l] M Q := q
theorem f_tupU {l : List U} (q : Q (.dtp l) M) : bltW .tuple [.dtp l] M Q := q
theorem f_tupd {p : Addr} {us : List U} (hp : M p = some (.lst us)) (q : Q (.dtp us) M) : bltW .tupd [.ref p] M Q := ⟨us, hp, q⟩
theorem f_dict {p : Addr} {ks : List (U × U)} (hp : M p = some (.dct false false ks)) (q : ∀ a, M a = none → Q (.ref a) (um M a (.dct false false ks))) : bltW .dict [.ref p] M Q := ⟨ks, hp, q⟩
theorem y_dtp {t : String} {l : List U} (q : T (t == "tuple") M) : isTyW (.dtp l) t M T := q
theorem s_dtp {l : List U} {I : List U → (Hm → Prop) → ((Hm → Prop) → Hm → Prop) → Hm → Prop} (q : I l (fun _ => True) (fun P => P) M) : seqI (.dtp l) M I := q
theorem i_gint {x : Str} {j : Int} (q : Q (.int j) M) : (w C (.gint x j)).e σ M Q := q
theorem i_gstr {x s : Str} (q : Q (.str s) M) : (w C (.gstr x s)).e σ M Q := q
theorem i_gdat {x : Str} {u : U} (q : Q u M) : (w C (.gdat x u)).e σ M Q := q
theorem i_gtup {x : Str} {is : List Int} (q : Q (.tup (is.map U.int)) M) : (w C (.gtup x is)).e σ M Q := q
theorem o_rep {p : Addr} {us : List U} {k : Int} (hp : M p = some (.lst us)) (h1 : -LIM ≤ k) (h2 : k ≤ LIM) (h3 : us.length * k.toNat ≤ LIM) (q : ∀ a, M a = none → Q (.ref a) (um M a (.lst (List.replicate k.toNat us).flatten))) : binW .mul (.ref p) (.int k) M Q := ⟨us, hp, h1, h2, h3, q⟩
theorem f_sum {p : Addr} {ns : List Int} (hp : M p = some (.lst (ns.map U.int))) (q : Q (.int ns.sum) M) : bltW .sum [.ref p] M Q := ⟨ns, hp, q⟩
theorem f_all {p : Addr} {bs : List Bool} (hp : M p = some (.lst (bs.map U.bl))) (q : Q (.bl (bs.all id)) M) : bltW .all [.ref p] M Q := ⟨bs, hp, q⟩
theorem f_any {p : Addr} {bs : List Bool} (hp : M p = some (.lst (bs.map U.bl))) (q : Q (.bl (bs.any id)) M) : bltW .any [.ref p] M Q := ⟨bs, hp, q⟩
variable {nx : SU → Hm → Prop} {rt : QU} {bk ct : SU → Hm → Prop} {x y z : S}
theorem z_setF {cn f : Str} (q : (w C b).e σ M fun v M1 => (w C a).e σ M1 fun x M2 => ∃ p fs, x = .ref p ∧ M2 p = some (.obj cn fs) ∧ fs.length < 1000 ∧ nx σ (um M2 p (.obj cn (fput f v fs)))) : wS C (.setF cn f a b) ⟨nx, rt, bk, ct⟩ σ M := q
theorem st_fld {cn : Str} {p : Addr} {fs : List (Str × U)} {R : Addr → List (Str × U) → Prop} (hp : M p = some (.obj cn fs)) (hl : fs.length < 1000) (q : R p fs) : ∃ p' fs', U.ref p = .ref p' ∧ M p' = some (.obj cn fs') ∧ fs'.length < 1000 ∧ R p' fs' := ⟨p, fs, rfl, hp, hl, q⟩
end
end Pl

set_option maxHeartbeats 400000
local macro_rules | `(tactic| get_elem_tactic_extensible) => `(tactic| exact Pl.um_none (by assumption))
local macro_rules | `(tactic| get_elem_tactic_extensible) => `(tactic| (refine Pl.um_oth (by first | assumption | exact Ne.symm (by assumption)) ?_; get_elem_tactic_extensible))
local macro_rules | `(tactic| get_elem_tactic_extensible) => `(tactic| (refine Pl.um_old ?_ ?_ <;> get_elem_tactic_extensible))
local macro_rules | `(tactic| get_elem_tactic_extensible) => `(tactic| exact Pl.um_same)
local macro_rules | `(tactic| get_elem_tactic_extensible) => `(tactic| assumption)
local macro_rules | `(tactic| array_get_dec) => `(tactic| with_reducible refine Pl.i_tidx ?_)
local macro_rules | `(tactic| array_get_dec) => `(tactic| with_reducible refine Pl.i_slice ?_)
local macro_rules | `(tactic| array_get_dec) => `(tactic| with_reducible refine Pl.i_setdef ?_)
local macro_rules | `(tactic| array_get_dec) => `(tactic| with_reducible refine Pl.i_prop ?_)
local macro_rules | `(tactic| array_get_dec) => `(tactic| with_reducible refine Pl.i_ors ?_)
local macro_rules | `(tactic| array_get_dec) => `(tactic| with_reducible refine Pl.i_notN ?_)
local macro_rules | `(tactic| array_get_dec) => `(tactic| with_reducible refine Pl.i_not ?_)
local macro_rules | `(tactic| array_get_dec) => `(tactic| with_reducible refine Pl.i_non ?_)
local macro_rules | `(tactic| array_get_dec) => `(tactic| with_reducible refine Pl.i_neg ?_)
local macro_rules | `(tactic| array_get_dec) => `(tactic| with_reducible refine Pl.i_mth ?_)
local macro_rules | `(tactic| array_get_dec) => `(tactic| with_reducible refine Pl.i_meth ?_)
local macro_rules | `(tactic| array_get_dec) => `(tactic| with_reducible refine Pl.i_make ?_)
local macro_rules | `(tactic| array_get_dec) => `(tactic| with_reducible refine Pl.i_lst ?_)
local macro_rules | `(tactic| array_get_dec) => `(tactic| with_reducible refine Pl.i_lrng1 ?_)
local macro_rules | `(tactic| array_get_dec) => `(tactic| with_reducible refine Pl.i_ite ?_)
local macro_rules | `(tactic| array_get_dec) => `(tactic| with_reducible refine Pl.i_isinst ?_)
local macro_rules | `(tactic| array_get_dec) => `(tactic| with_reducible refine Pl.i_isNB ?_)
local macro_rules | `(tactic| array_get_dec) => `(tactic| with_reducible refine Pl.i_isN ?_)
local macro_rules | `(tactic| array_get_dec) => `(tactic| with_reducible refine Pl.i_isB ?_)
local macro_rules | `(tactic| array_get_dec) => `(tactic| with_reducible refine Pl.i_gdat ?_)
local macro_rules | `(tactic| array_get_dec) => `(tactic| with_reducible refine Pl.i_gtup ?_)
local macro_rules | `(tactic| array_get_dec) => `(tactic| with_reducible refine Pl.i_gstr ?_)
local macro_rules | `(tactic| array_get_dec) => `(tactic| with_reducible refine Pl.i_gint ?_)
local macro_rules | `(tactic| array_get_dec) => `(tactic| with_reducible refine Pl.i_fld ?_)
local macro_rules | `(tactic| array_get_dec) => `(tactic| with_reducible refine Pl.i_dtup ?_)
local macro_rules | `(tactic| array_get_dec) => `(tactic| with_reducible refine Pl.i_ddispN ?_)
local macro_rules | `(tactic| array_get_dec) => `(tactic| with_reducible refine Pl.i_dnewN ?_)
local macro_rules | `(tactic| array_get_dec) => `(tactic| with_reducible refine Pl.i_dnew ?_)
local macro_rules | `(tactic| array_get_dec) => `(tactic| with_reducible refine Pl.i_dget1 ?_)
local macro_rules | `(tactic| array_get_dec) => `(tactic| with_reducible refine Pl.i_dgetN ?_)
local macro_rules | `(tactic| array_get_dec) => `(tactic| with_reducible refine Pl.i_dget ?_)
local macro_rules | `(tactic| array_get_dec) => `(tactic| with_reducible refine Pl.i_dcomp0 ?_)
local macro_rules | `(tactic| array_get_dec) => `(tactic| with_reducible refine Pl.i_compN ?_)
local macro_rules | `(tactic| array_get_dec) => `(tactic| ((with_reducible apply Pl.i_compC); exact rfl))
local macro_rules | `(tactic| array_get_dec) => `(tactic| with_reducible refine Pl.i_chain ?_)
local macro_rules | `(tactic| array_get_dec) => `(tactic| with_reducible refine Pl.i_blt ?_)
local macro_rules | `(tactic| array_get_dec) => `(tactic| with_reducible refine Pl.i_bl ?_)
local macro_rules | `(tactic| array_get_dec) => `(tactic| with_reducible refine Pl.i_bin ?_)
local macro_rules | `(tactic| array_get_dec) => `(tactic| with_reducible refine Pl.i_ands ?_)
local macro_rules | `(tactic| array_get_dec) => `(tactic| with_reducible refine Pl.i_tup ?_)
local macro_rules | `(tactic| array_get_dec) => `(tactic| with_reducible refine Pl.i_cmp ?_)
local macro_rules | `(tactic| array_get_dec) => `(tactic| with_reducible refine Pl.i_call ?_)
local macro_rules | `(tactic| array_get_dec) => `(tactic| with_reducible refine Pl.i_ix ?_)
local macro_rules | `(tactic| array_get_dec) => `(tactic| with_reducible refine Pl.i_int ?_)
local macro_rules | `(tactic| array_get_dec) => `(tactic| with_reducible refine Pl.i_str ?_)
local macro_rules | `(tactic| array_get_dec) => `(tactic| ((with_reducible apply Pl.i_var); exact rfl))
local macro_rules | `(tactic| mleft) => `(tactic| with_reducible refine Pl.z_skip ?_)
local macro_rules | `(tactic| mleft) => `(tactic| with_reducible refine Pl.z_delIx ?_)
local macro_rules | `(tactic| mleft) => `(tactic| with_reducible refine Pl.z_setIx ?_)
local macro_rules | `(tactic| mleft) => `(tactic| with_reducible refine Pl.z_setF ?_)
local macro_rules | `(tactic| mleft) => `(tactic| with_reducible refine Pl.z_retN ?_)
local macro_rules | `(tactic| mleft) => `(tactic| with_reducible refine Pl.z_ret ?_)
local macro_rules | `(tactic| mleft) => `(tactic| with_reducible refine Pl.z_ifs ?_)
local macro_rules | `(tactic| mleft) => `(tactic| with_reducible refine Pl.z_for ?_)
local macro_rules | `(tactic| mleft) => `(tactic| with_reducible refine Pl.z_expr ?_)
local macro_rules | `(tactic| mleft) => `(tactic| with_reducible refine Pl.z_cnt ?_)
local macro_rules | `(tactic| mleft) => `(tactic| with_reducible refine Pl.z_brk ?_)
local macro_rules | `(tactic| mleft) => `(tactic| ((with_reducible apply Pl.z_augV); exact rfl))
local macro_rules | `(tactic| mleft) => `(tactic| with_reducible refine Pl.z_augIx ?_)
local macro_rules | `(tactic| mleft) => `(tactic| with_reducible refine Pl.z_asgU ?_)
local macro_rules | `(tactic| mleft) => `(tactic| with_reducible refine Pl.z_asgT ?_)
local macro_rules | `(tactic| mleft) => `(tactic| with_reducible refine Pl.z_asg ?_)
local macro_rules | `(tactic| mleft) => `(tactic| with_reducible refine Pl.z_seq ?_)
local macro_rules | `(tactic| array_mem_dec) => `(tactic| ((with_reducible apply Pl.t_var); exact rfl))
local macro_rules | `(tactic| array_mem_dec) => `(tactic| with_reducible refine Pl.t_prop ?_)
local macro_rules | `(tactic| array_mem_dec) => `(tactic| with_reducible refine Pl.t_ors ?_)
local macro_rules | `(tactic| array_mem_dec) => `(tactic| with_reducible refine Pl.t_notN ?_)
local macro_rules | `(tactic| array_mem_dec) => `(tactic| with_reducible refine Pl.t_not ?_)
local macro_rules | `(tactic| array_mem_dec) => `(tactic| with_reducible refine Pl.t_meth ?_)
local macro_rules | `(tactic| array_mem_dec) => `(tactic| with_reducible refine Pl.t_ix ?_)
local macro_rules | `(tactic| array_mem_dec) => `(tactic| with_reducible refine Pl.t_isinst ?_)
local macro_rules | `(tactic| array_mem_dec) => `(tactic| with_reducible refine Pl.t_isNB ?_)
local macro_rules | `(tactic| array_mem_dec) => `(tactic| with_reducible refine Pl.t_isN ?_)
local macro_rules | `(tactic| array_mem_dec) => `(tactic| with_reducible refine Pl.t_isB ?_)
local macro_rules | `(tactic| array_mem_dec) => `(tactic| with_reducible refine Pl.t_fld ?_)
local macro_rules | `(tactic| array_mem_dec) => `(tactic| with_reducible refine Pl.t_dget ?_)
local macro_rules | `(tactic| array_mem_dec) => `(tactic| with_reducible refine Pl.t_cmp ?_)
local macro_rules | `(tactic| array_mem_dec) => `(tactic| with_reducible refine Pl.t_chain ?_)
local macro_rules | `(tactic| array_mem_dec) => `(tactic| with_reducible refine Pl.t_call ?_)
local macro_rules | `(tactic| array_mem_dec) => `(tactic| with_reducible refine Pl.t_blt ?_)
local macro_rules | `(tactic| array_mem_dec) => `(tactic| with_reducible refine Pl.t_bl ?_)
local macro_rules | `(tactic| array_mem_dec) => `(tactic| with_reducible refine Pl.t_bin ?_)
local macro_rules | `(tactic| array_mem_dec) => `(tactic| with_reducible refine Pl.t_ands ?_)
local macro_rules | `(tactic| mright) => `(tactic| ((with_reducible apply Pl.f_tupd); get_elem_tactic_extensible))
local macro_rules | `(tactic| mright) => `(tactic| with_reducible refine Pl.f_tupU ?_)
local macro_rules | `(tactic| mright) => `(tactic| with_reducible refine Pl.f_tupT ?_)
local macro_rules | `(tactic| mright) => `(tactic| ((with_reducible apply Pl.f_tupL); get_elem_tactic_extensible))
local macro_rules | `(tactic| mright) => `(tactic| ((with_reducible apply Pl.f_sum); get_elem_tactic_extensible))
local macro_rules | `(tactic| mright) => `(tactic| with_reducible refine Pl.f_min ?_)
local macro_rules | `(tactic| mright) => `(tactic| with_reducible refine Pl.f_max ?_)
local macro_rules | `(tactic| mright) => `(tactic| with_reducible refine Pl.f_listU ?_)
local macro_rules | `(tactic| mright) => `(tactic| with_reducible refine Pl.f_listT ?_)
local macro_rules | `(tactic| mright) => `(tactic| ((with_reducible apply Pl.f_listN); get_elem_tactic_extensible))
local macro_rules | `(tactic| mright) => `(tactic| ((with_reducible apply Pl.f_listL); get_elem_tactic_extensible))
local macro_rules | `(tactic| mright) => `(tactic| ((with_reducible apply Pl.f_listD); get_elem_tactic_extensible))
local macro_rules | `(tactic| mright) => `(tactic| with_reducible refine Pl.f_lenU ?_)
local macro_rules | `(tactic| mright) => `(tactic| with_reducible refine Pl.f_lenT ?_)
local macro_rules | `(tactic| mright) => `(tactic| ((with_reducible apply Pl.f_lenL); get_elem_tactic_extensible))
local macro_rules | `(tactic| mright) => `(tactic| ((with_reducible apply Pl.f_lenD); get_elem_tactic_extensible))
local macro_rules | `(tactic| mright) => `(tactic| with_reducible refine Pl.f_intB ?_)
local macro_rules | `(tactic| mright) => `(tactic| with_reducible refine Pl.f_int ?_)
local macro_rules | `(tactic| mright) => `(tactic| ((with_reducible apply Pl.f_dict); get_elem_tactic_extensible))
local macro_rules | `(tactic| mright) => `(tactic| ((with_reducible apply Pl.f_any); get_elem_tactic_extensible))
local macro_rules | `(tactic| mright) => `(tactic| ((with_reducible apply Pl.f_all); get_elem_tactic_extensible))
local macro_rules | `(tactic| mright) => `(tactic| with_reducible refine Pl.f_abs ?_)
local macro_rules | `(tactic| decreasing_trivial_pre_omega) => `(tactic| ((with_reducible refine Pl.i_lt ?_ ?_); exact Nat.le_of_ble_eq_true rfl))
local macro_rules | `(tactic| decreasing_trivial_pre_omega) => `(tactic| ((with_reducible refine Pl.i_le ?_ ?_); exact Nat.le_of_ble_eq_true rfl))
local macro_rules | `(tactic| decreasing_trivial_pre_omega) => `(tactic| ((with_reducible apply Pl.i_ifdf); (first | assumption | decide +kernel)))
local macro_rules | `(tactic| decreasing_trivial_pre_omega) => `(tactic| ((with_reducible apply Pl.i_ifdt); (first | assumption | exact rfl | decide +kernel)))
local macro_rules | `(tactic| decreasing_trivial_pre_omega) => `(tactic| ((with_reducible apply Pl.o_shl); exact ⟨by decide, by decide, by decide⟩))
local macro_rules | `(tactic| decreasing_trivial_pre_omega) => `(tactic| ((with_reducible apply Pl.o_pow); exact ⟨by decide, by decide, by decide⟩))
local macro_rules | `(tactic| decreasing_trivial_pre_omega) => `(tactic| ((with_reducible apply Pl.o_mul); first | exact Pl.cmul_l (by omega) (by omega) | exact Pl.cmul_r (by omega) (by omega)))
local macro_rules | `(tactic| decreasing_trivial_pre_omega) => `(tactic| ((with_reducible apply Pl.o_fdiv); exact ⟨by first | omega | decide, by first | omega | decide⟩))
local macro_rules | `(tactic| decreasing_trivial_pre_omega) => `(tactic| ((with_reducible apply Pl.o_mod); (first | omega | decide)))
local macro_rules | `(tactic| decreasing_trivial_pre_omega) => `(tactic| ((with_reducible apply Pl.i_iff); (first | exact rfl | assumption | decide +kernel)))
local macro_rules | `(tactic| decreasing_trivial_pre_omega) => `(tactic| ((with_reducible apply Pl.i_ift); (first | exact rfl | assumption | decide +kernel)))
local macro_rules | `(tactic| decreasing_trivial_pre_omega) => `(tactic| ((with_reducible apply Pl.st_fld); get_elem_tactic_extensible; exact Nat.le_of_ble_eq_true rfl))
local macro_rules | `(tactic| decreasing_trivial_pre_omega) => `(tactic| ((with_reducible apply Pl.i_isO); get_elem_tactic_extensible; exact rfl))
local macro_rules | `(tactic| decreasing_trivial_pre_omega) => `(tactic| ((with_reducible apply Pl.i_isF); get_elem_tactic_extensible; exact rfl))
local macro_rules | `(tactic| decreasing_trivial_pre_omega) => `(tactic| ((with_reducible apply Pl.st_lst); get_elem_tactic_extensible; exact rfl))
local macro_rules | `(tactic| decreasing_trivial_pre_omega) => `(tactic| ((with_reducible apply Pl.g_lst); get_elem_tactic_extensible; exact rfl))
local macro_rules | `(tactic| decreasing_trivial_pre_omega) => `(tactic| ((with_reducible apply Pl.x_lst); get_elem_tactic_extensible; exact rfl))
local macro_rules | `(tactic| decreasing_trivial_pre_omega) => `(tactic| ((with_reducible apply Pl.z_asgU2); get_elem_tactic_extensible; exact rfl))
local macro_rules | `(tactic| decreasing_trivial_pre_omega) => `(tactic| ((with_reducible apply Pl.i_isQ); get_elem_tactic_extensible))
local macro_rules | `(tactic| decreasing_trivial_pre_omega) => `(tactic| ((with_reducible apply Pl.i_rcN); get_elem_tactic_extensible))
local macro_rules | `(tactic| decreasing_trivial_pre_omega) => `(tactic| ((with_reducible apply Pl.i_isD); get_elem_tactic_extensible))
local macro_rules | `(tactic| decreasing_trivial_pre_omega) => `(tactic| ((with_reducible apply Pl.i_rcvR); get_elem_tactic_extensible))
local macro_rules | `(tactic| decreasing_trivial_pre_omega) => `(tactic| ((with_reducible apply Pl.i_rcvX); get_elem_tactic_extensible))
local macro_rules | `(tactic| decreasing_trivial_pre_omega) => `(tactic| ((with_reducible apply Pl.i_rcvQ); get_elem_tactic_extensible))
local macro_rules | `(tactic| decreasing_trivial_pre_omega) => `(tactic| ((with_reducible apply Pl.i_rcvP); get_elem_tactic_extensible))
local macro_rules | `(tactic| decreasing_trivial_pre_omega) => `(tactic| ((with_reducible apply Pl.i_rcvE); get_elem_tactic_extensible))
local macro_rules | `(tactic| decreasing_trivial_pre_omega) => `(tactic| ((with_reducible apply Pl.i_rcvA); get_elem_tactic_extensible))
local macro_rules | `(tactic| decreasing_trivial_pre_omega) => `(tactic| ((with_reducible apply Pl.r_lst); get_elem_tactic_extensible))
local macro_rules | `(tactic| decreasing_trivial_pre_omega) => `(tactic| ((with_reducible apply Pl.s_lst); get_elem_tactic_extensible))
local macro_rules | `(tactic| decreasing_trivial_pre_omega) => `(tactic| ((with_reducible apply Pl.y_lst); get_elem_tactic_extensible))
local macro_rules | `(tactic| decreasing_trivial_pre_omega) => `(tactic| ((with_reducible apply Pl.sl_lst); get_elem_tactic_extensible))
local macro_rules | `(tactic| decreasing_trivial_pre_omega) => `(tactic| ((with_reducible apply Pl.tr_dct); get_elem_tactic_extensible))
local macro_rules | `(tactic| decreasing_trivial_pre_omega) => `(tactic| ((with_reducible apply Pl.tr_lst); get_elem_tactic_extensible))
local macro_rules | `(tactic| decreasing_trivial_pre_omega) => `(tactic| ((with_reducible apply Pl.tg_many); exact rfl))
local macro_rules | `(tactic| decreasing_trivial_pre_omega) => `(tactic| ((with_reducible apply Pl.z_asgT2); exact rfl))
local macro_rules | `(tactic| decreasing_trivial_pre_omega) => `(tactic| ((with_reducible apply Pl.i_part1); exact rfl))
local macro_rules | `(tactic| decreasing_trivial_pre_omega) => `(tactic| with_reducible refine Pl.i_ifn ?_)
local macro_rules | `(tactic| decreasing_trivial_pre_omega) => `(tactic| with_reducible refine Pl.tg_one ?_)
local macro_rules | `(tactic| decreasing_trivial_pre_omega) => `(tactic| with_reducible refine Pl.s_dtp ?_)
local macro_rules | `(tactic| decreasing_trivial_pre_omega) => `(tactic| with_reducible refine Pl.y_dtp ?_)
local macro_rules | `(tactic| decreasing_trivial_pre_omega) => `(tactic| with_reducible refine Pl.tr_dtp ?_)
local macro_rules | `(tactic| decreasing_trivial_pre_omega) => `(tactic| with_reducible refine Pl.i_isT ?_)
local macro_rules | `(tactic| decreasing_trivial_pre_omega) => `(tactic| with_reducible refine Pl.s_rol ?_)
local macro_rules | `(tactic| decreasing_trivial_pre_omega) => `(tactic| with_reducible refine Pl.s_tup ?_)
local macro_rules | `(tactic| decreasing_trivial_pre_omega) => `(tactic| with_reducible refine Pl.w_rng2 ?_)
local macro_rules | `(tactic| decreasing_trivial_pre_omega) => `(tactic| with_reducible refine Pl.w_rng ?_)
local macro_rules | `(tactic| decreasing_trivial_pre_omega) => `(tactic| with_reducible refine Pl.w_enum ?_)
local macro_rules | `(tactic| decreasing_trivial_pre_omega) => `(tactic| with_reducible refine Pl.r_dtp ?_)
local macro_rules | `(tactic| decreasing_trivial_pre_omega) => `(tactic| with_reducible refine Pl.r_tup ?_)
local macro_rules | `(tactic| decreasing_trivial_pre_omega) => `(tactic| with_reducible refine Pl.w_rev ?_)
local macro_rules | `(tactic| decreasing_trivial_pre_omega) => `(tactic| with_reducible refine Pl.zi_dd ?_)
local macro_rules | `(tactic| decreasing_trivial_pre_omega) => `(tactic| with_reducible refine Pl.zi_td ?_)
local macro_rules | `(tactic| decreasing_trivial_pre_omega) => `(tactic| with_reducible refine Pl.zi_dt ?_)
local macro_rules | `(tactic| decreasing_trivial_pre_omega) => `(tactic| with_reducible refine Pl.zi_tt ?_)
local macro_rules | `(tactic| decreasing_trivial_pre_omega) => `(tactic| with_reducible refine Pl.w_zip ?_)
local macro_rules | `(tactic| decreasing_trivial_pre_omega) => `(tactic| with_reducible refine Pl.w_seq ?_)
local macro_rules | `(tactic| decreasing_trivial_pre_omega) => `(tactic| with_reducible refine Pl.y_tup ?_)
local macro_rules | `(tactic| decreasing_trivial_pre_omega) => `(tactic| with_reducible refine Pl.y_str ?_)
local macro_rules | `(tactic| decreasing_trivial_pre_omega) => `(tactic| with_reducible refine Pl.y_int ?_)
local macro_rules | `(tactic| decreasing_trivial_pre_omega) => `(tactic| with_reducible refine Pl.y_bl ?_)
local macro_rules | `(tactic| decreasing_trivial_pre_omega) => `(tactic| with_reducible refine Pl.y_non ?_)
local macro_rules | `(tactic| decreasing_trivial_pre_omega) => `(tactic| with_reducible refine Pl.sl_tup ?_)
local macro_rules | `(tactic| decreasing_trivial_pre_omega) => `(tactic| with_reducible refine Pl.tr_non ?_)
local macro_rules | `(tactic| decreasing_trivial_pre_omega) => `(tactic| with_reducible refine Pl.tr_tup ?_)
local macro_rules | `(tactic| decreasing_trivial_pre_omega) => `(tactic| with_reducible refine Pl.tr_int ?_)
local macro_rules | `(tactic| decreasing_trivial_pre_omega) => `(tactic| with_reducible refine Pl.tr_bl ?_)
local macro_rules | `(tactic| decreasing_trivial_pre_omega) => `(tactic| with_reducible refine Pl.eq_bl ?_)
local macro_rules | `(tactic| decreasing_trivial_pre_omega) => `(tactic| with_reducible refine Pl.c_nin ?_)
local macro_rules | `(tactic| decreasing_trivial_pre_omega) => `(tactic| with_reducible refine Pl.c_in ?_)
local macro_rules | `(tactic| decreasing_trivial_pre_omega) => `(tactic| with_reducible refine Pl.vo_2 ?_)
local macro_rules | `(tactic| decreasing_trivial_pre_omega) => `(tactic| with_reducible refine Pl.vo_1 ?_)
local macro_rules | `(tactic| decreasing_trivial_pre_omega) => `(tactic| with_reducible refine Pl.va_2 ?_)
local macro_rules | `(tactic| decreasing_trivial_pre_omega) => `(tactic| with_reducible refine Pl.va_1 ?_)
local macro_rules | `(tactic| decreasing_trivial_pre_omega) => `(tactic| with_reducible refine Pl.i_part0 ?_)
local macro_rules | `(tactic| decreasing_trivial_pre_omega) => `(tactic| with_reducible refine Pl.i_exII ?_)
local macro_rules | `(tactic| decreasing_trivial_pre_omega) => `(tactic| with_reducible refine Pl.i_exI ?_)
local macro_rules | `(tactic| decreasing_trivial_pre_omega) => `(tactic| with_reducible refine Pl.i_exB ?_)
local macro_rules | `(tactic| decreasing_trivial_pre_omega) => `(tactic| with_reducible refine Pl.i_bW ?_)
local macro_rules | `(tactic| decreasing_trivial_pre_omega) => `(tactic| with_reducible refine Pl.i_neg2 ?_)
local macro_rules | `(tactic| decreasing_trivial_pre_omega) => `(tactic| with_reducible refine Pl.ta_1 ?_)
local macro_rules | `(tactic| decreasing_trivial_pre_omega) => `(tactic| with_reducible refine Pl.ta_2 ?_)
local macro_rules | `(tactic| decreasing_trivial_pre_omega) => `(tactic| with_reducible refine Pl.to_1 ?_)
local macro_rules | `(tactic| decreasing_trivial_pre_omega) => `(tactic| with_reducible refine Pl.to_2 ?_)
local macro_rules | `(tactic| decreasing_trivial_pre_omega) => `(tactic| with_reducible refine Pl.c_ge ?_)
local macro_rules | `(tactic| decreasing_trivial_pre_omega) => `(tactic| with_reducible refine Pl.c_gt ?_)
local macro_rules | `(tactic| decreasing_trivial_pre_omega) => `(tactic| with_reducible refine Pl.c_le ?_)
local macro_rules | `(tactic| decreasing_trivial_pre_omega) => `(tactic| with_reducible refine Pl.c_lt ?_)
local macro_rules | `(tactic| decreasing_trivial_pre_omega) => `(tactic| with_reducible refine Pl.eq_str ?_)
local macro_rules | `(tactic| decreasing_trivial_pre_omega) => `(tactic| with_reducible refine Pl.eq_int ?_)
local macro_rules | `(tactic| decreasing_trivial_pre_omega) => `(tactic| with_reducible refine Pl.c_ne ?_)
local macro_rules | `(tactic| decreasing_trivial_pre_omega) => `(tactic| with_reducible refine Pl.c_eq ?_)
local macro_rules | `(tactic| decreasing_trivial_pre_omega) => `(tactic| with_reducible refine Pl.o_sub ?_)
local macro_rules | `(tactic| decreasing_trivial_pre_omega) => `(tactic| with_reducible refine Pl.o_add ?_)
local macro_rules | `(tactic| decreasing_trivial_pre_omega) => `(tactic| with_reducible refine Pl.i_nil ?_)
local macro_rules | `(tactic| decreasing_trivial_pre_omega) => `(tactic| with_reducible refine Pl.i_cons ?_)
local macro_rules | `(tactic| decreasing_trivial_pre_omega) => `(tactic| ((with_reducible apply Pl.x_dtp); exact rfl))
local macro_rules | `(tactic| decreasing_trivial_pre_omega) => `(tactic| ((with_reducible apply Pl.x_tup); exact rfl))
local macro_rules | `(tactic| decreasing_trivial_pre_omega) => `(tactic| ((with_reducible refine Pl.is_b ?_); mright))
local macro_rules | `(tactic| decreasing_trivial_pre_omega) => `(tactic| ((with_reducible refine Pl.is_t ?_); array_mem_dec))
local macro_rules | `(tactic| decreasing_trivial_pre_omega) => `(tactic| ((with_reducible refine Pl.is_s ?_); mleft))
local macro_rules | `(tactic| decreasing_trivial_pre_omega) => `(tactic| ((with_reducible refine Pl.is_e ?_); array_get_dec))
/-! the draws -/
namespace Pl
open PySem L2
/-- a row of draws: where it lies, where its script lies -/
def Dr (M : Hm) (p : Addr × Addr) : Prop := ∃ (cells : List Int) (a b c : Int), p.2 ≠ p.1 ∧ M p.1 = some (.lst [.ref p.2, .int a, .int b, .int c]) ∧ M p.2 = some (.lst (cells.map U.int)) ∧ 0 ≤ a
def bDraw : S := (.seq (.ifs (.cmp .gt (.ix (.var 0) (.int 2)) (.int 0)) (.seq (.asg 2 (.ix (.var 0) (.int 2))) (.seq (.setIx (.var 0) (.int 2) (.bin .fdiv (.var 2) (.var 1))) (.seq (.ret (.bin .mod (.blt .int (.cons (.var 2) .nil)) (.var 1))) .skip))) .skip) (.seq (.asg 3 (.int 0)) (.seq (.ifs (.cmp .lt (.ix (.var 0) (.int 1)) (.blt .len (.cons (.ix (.var 0) (.int 0)) .nil))) (.seq (.asg 4 (.ix (.ix (.var 0) (.int 0)) (.ix (.var 0) (.int 1)))) (.seq (.asg 3 (.bin .add (.bin .mul (.int 2) (.blt .abs (.cons (.var 4) .nil))) (.blt .int (.cons (.cmp .lt (.var 4) (.int 0)) .nil)))) .skip)) .skip) (.seq (.augIx (.var 0) (.int 1) .add (.int 1)) (.seq (.ifs (.cmp .ge (.var 3) (.bin .mul (.int 2) (.bin .pow (.int 10) (.int 18)))) (.seq (.asg 2 (.bin .mod (.blt .int (.cons (.bin .fdiv (.var 3) (.int 2)) .nil)) (.bin .shl (.int 1) (.int 6000)))) (.seq (.setIx (.var 0) (.int 2) (.bin .fdiv (.var 2) (.var 1))) (.seq (.ret (.bin .mod (.blt .int (.cons (.var 2) .nil)) (.var 1))) .skip))) .skip) (.seq (.setIx (.var 0) (.int 3) (.bin .mod (.blt .int (.cons (.bin .add (.bin .add (.bin .add (.bin .mul (.ix (.var 0) (.int 3)) (.int 48271)) (.bin .mul (.bin .mod (.blt .int (.cons (.var 3) .nil)) (.int 2147483629)) (.int 16807))) (.bin .mul (.ix (.var 0) (.int 1)) (.int 69621))) (.int 11)) .nil)) (.int 2147483647))) (.seq (.ret (.bin .mod (.blt .int (.cons (.bin .fdiv (.ix (.var 0) (.int 3)) (.int 16)) .nil)) (.var 1))) .skip)))))))
theorem atI_map {l : List Int} {i : Int} (h0 : 0 ≤ i) (h : i < l.length) : ∃ x, atI (l.map U.int) i = some (.int x) := by
  unfold atI ixN
  rw [if_pos h0]
  have hn : i.toNat < l.length := by omega
  refine ⟨l[i.toNat], ?_⟩
  rw [if_pos (by rw [List.length_map]; exact h)]
  simp [hn]
theorem draw_ok {C : CE} {nx bk ct : SU → Hm → Prop} {rt : QU} {M : Hm} {p : Addr × Addr} {many : Int} (h : Dr M p) (h1 : 0 < many) (h2 : many < 1073741824)
    (hq : ∀ r M', 0 ≤ r → r < many → Dr M' p → (∀ a, a ≠ p.1 → M' a = M a) → rt (.int r) M') : wS C bDraw ⟨nx, rt, bk, ct⟩ (startU 5 [.ref p.1, .int many]) M := by
  obtain ⟨cells, a, b, c, hn, hp, hc, ha⟩ := h
  have many_ne : many ≠ 0 := by omega
  have fin : ∀ (a b c : Int) (x : Int), 0 ≤ a → rt (.int (x % many)) (um M p.1 (.lst [.ref p.2, .int a, .int b, .int c])) := fun a b c x ha =>
    hq _ _ (Int.emod_nonneg _ many_ne) (Int.emod_lt_of_pos _ h1) ⟨cells, a, b, c, hn, um_same, by rw [um_ne hn]; exact hc, ha⟩ (fun a h => um_ne h)
  unfold bDraw
  (repeat decreasing_trivial_pre_omega)
  refine i_ifd (fun hb => ?_) (fun hb => ?_)
  · (repeat decreasing_trivial_pre_omega)
    exact fin _ _ _ _ ha
  · (repeat decreasing_trivial_pre_omega)
    refine i_ifd (fun hi => ?_) (fun hi => ?_)
    · (repeat decreasing_trivial_pre_omega)
      obtain ⟨x, hx⟩ := atI_map ha (by simpa using hi)
      refine x_lst hc hx ?_
      (repeat decreasing_trivial_pre_omega)
      refine i_ifd (fun hs => ?_) (fun hs => ?_)
      · (repeat decreasing_trivial_pre_omega)
        simp only [um_um]
        exact fin _ _ _ _ (by omega)
      · (repeat decreasing_trivial_pre_omega)
        simp only [um_um]
        exact fin _ _ _ _ (by omega)
    · (repeat decreasing_trivial_pre_omega)
      simp only [um_um]
      exact fin _ _ _ _ (by omega)
/-- what is not the draws' own stays -/
def Fr (p : Addr × Addr) (M M' : Hm) : Prop := ∀ a, a ≠ p.1 → ∀ o, M a = some o → M' a = some o
theorem Fr.refl (p : Addr × Addr) (M : Hm) : Fr p M M := fun _ _ _ h => h
theorem Fr.trans {p : Addr × Addr} {A B D : Hm} (h : Fr p A B) (g : Fr p B D) : Fr p A D := fun a n o e => g a n o (h a n o e)
theorem Fr.at_ {p : Addr × Addr} {a : Addr} {A B : Hm} {r : MO} (h : Fr p A B) (n : a ≠ p.1) (e : A a = some r) : B a = some r := h a n r e
theorem Sub.fr {p : Addr × Addr} {A B : Hm} (h : Sub A B) : Fr p A B := fun a _ o e => h a o e
theorem Fr.of_eq {p : Addr × Addr} {A B : Hm} (h : ∀ a, a ≠ p.1 → B a = A a) : Fr p A B := fun a n o e => (h a n).trans e
theorem Dr.mem {M : Hm} {p : Addr × Addr} (h : Dr M p) : ∃ o, M p.1 = some o := by
  obtain ⟨cells, a, b, c, hn, hp, hc, ha⟩ := h
  exact ⟨_, hp⟩
theorem Dr.ne {M : Hm} {p : Addr × Addr} {a : Addr} (h : Dr M p) (ha : M a = none) : a ≠ p.1 := by
  obtain ⟨o, e⟩ := h.mem
  exact ne_of_old' e ha
/-- a thing of its own does not touch the draws -/
theorem Dr.upd {M : Hm} {p : Addr × Addr} {a : Addr} {o : MO} (h : Dr M p) (ha : M a = none) : Dr (um M a o) p := by
  have hne := h.ne ha
  obtain ⟨cells, i, b, c, hn, hp, hc, hi⟩ := h
  exact ⟨cells, i, b, c, hn, um_old hp ha, um_old hc ha, hi⟩
theorem Dr.sub {M M' : Hm} {p : Addr × Addr} (h : Dr M p) (s : Sub M M') : Dr M' p := by
  obtain ⟨cells, i, b, c, hn, hp, hc, hi⟩ := h
  exact ⟨cells, i, b, c, hn, s _ _ hp, s _ _ hc, hi⟩
def DrawC (C : CE) (f : Nat) : Prop := ∀ (M : Hm) (p : Addr × Addr) (many : Int) (Q : QU), Dr M p → 0 < many → many < 1073741824 →
  (∀ r M', 0 ≤ r → r < many → Dr M' p → Fr p M M' → Q (.int r) M') → C f [.ref p.1, .int many] M Q
theorem Dr.ne2 {M : Hm} {p : Addr × Addr} {a : Addr} (h : Dr M p) (ha : M a = none) : a ≠ p.2 := by
  obtain ⟨cells, i, b, c, hn, hp, hc, hi⟩ := h
  exact ne_of_old' hc ha
/-- a thing that is not the draws' own may change -/
theorem Dr.upd2 {M : Hm} {p : Addr × Addr} {a : Addr} {o : MO} (h : Dr M p) (h1 : a ≠ p.1) (h2 : a ≠ p.2) : Dr (um M a o) p := by
  obtain ⟨cells, i, b, c, hn, hp, hc, hi⟩ := h
  exact ⟨cells, i, b, c, hn, um_oth h1.symm hp, um_oth h2.symm hc, hi⟩
theorem Fr.non {p : Addr × Addr} {A B : Hm} {a : Addr} (h : Fr p A B) (n : a ≠ p.1) (e : B a = none) : A a = none := by
  cases q : A a with
  | none => rfl
  | some o => rw [h a n o q] at e; cases e
theorem Fr.upd {p : Addr × Addr} {A B : Hm} {a : Addr} {o : MO} (h : Fr p A B) (e : A a = none) : Fr p A (um B a o) := fun b n o' q => by
  rw [um_ne (ne_of_old q e)]
  exact h b n o' q
end Pl

set_option maxHeartbeats 400000
/-! one of a row; what the laws' own parts share -/
namespace Pl
open PySem L2
def bPick (f : Nat) : S := (.seq (.ret (.ix (.var 1) (.call f (.cons (.var 0) (.cons (.blt .len (.cons (.var 1) .nil)) .nil))))) .skip)
def RowAt (M : Hm) (p : Addr × Addr) (row : U) (us : List U) : Prop := row = .tup us ∨ ∃ r, row = .ref r ∧ r ≠ p.1 ∧ M r = some (.lst us)
theorem atI_nn {α : Type} {l : List α} {r : Int} (h0 : 0 ≤ r) (h : r < l.length) : ∃ x, atI l r = some x ∧ x ∈ l := by
  have hn : r.toNat < l.length := by omega
  refine ⟨l[r.toNat], ?_, List.getElem_mem hn⟩
  unfold atI ixN
  rw [if_pos h0, if_pos h]
  show l[r.toNat]? = some l[r.toNat]
  exact List.getElem?_eq_getElem hn
theorem pick_ok {C : CE} {f : Nat} (hd : DrawC C f) {nx bk ct : SU → Hm → Prop} {rt : QU} {M : Hm} {p : Addr × Addr} {row : U} {us : List U} (h : Dr M p) (hr : RowAt M p row us) (h1 : us ≠ []) (h2 : us.length < 1073741824)
    (hq : ∀ x M', x ∈ us → Dr M' p → Fr p M M' → rt x M') : wS C (bPick f) ⟨nx, rt, bk, ct⟩ (startU 2 [.ref p.1, row]) M := by
  have hl : 0 < us.length := List.length_pos_iff.mpr h1
  unfold bPick
  (repeat decreasing_trivial_pre_omega)
  rcases hr with rfl | ⟨r, rfl, hn, hm⟩
  · (repeat decreasing_trivial_pre_omega)
    refine hd _ _ _ _ h (by omega) (by omega) fun r M' r0 r1 d' fr => ?_
    obtain ⟨x, hx, hxm⟩ := atI_nn r0 r1
    refine x_tup hx ?_
    exact hq _ _ hxm d' fr
  · (repeat decreasing_trivial_pre_omega)
    refine hd _ _ _ _ h (by omega) (by omega) fun i M' r0 r1 d' fr => ?_
    obtain ⟨x, hx, hxm⟩ := atI_nn r0 r1
    refine x_lst (fr.at_ hn hm) hx ?_
    exact hq _ _ hxm d' fr
def PickC (C : CE) (f : Nat) : Prop := ∀ (M : Hm) (p : Addr × Addr) (row : U) (us : List U) (Q : QU), Dr M p → RowAt M p row us → us ≠ [] → us.length < 1073741824 →
  (∀ x M', x ∈ us → Dr M' p → Fr p M M' → Q x M') → C f [.ref p.1, row] M Q
theorem DrawC.lt {C : CE} {f : Nat} (h : DrawC C f) (M : Hm) (p : Addr × Addr) (many : Nat) (Q : QU) (d : Dr M p) (h0 : 0 < many) (h1 : many < 1073741824) (hq : ∀ (r : Nat) M', r < many → Dr M' p → Fr p M M' → Q (.int r) M') : C f [.ref p.1, .int many] M Q :=
  h M p many Q d (by omega) (by omega) fun r M' r0 r1 d' fr => by
    have e : r = ((r.toNat : Nat) : Int) := by omega
    rw [e]
    exact hq r.toNat M' (by omega) d' fr
theorem atI_nat {α : Type} {l : List α} {i : Nat} (h : i < l.length) : atI l (i : Int) = some l[i] := by
  unfold atI ixN
  rw [if_pos (by omega), if_pos (by omega)]
  show l[((i : Nat) : Int).toNat]? = _
  rw [Int.toNat_natCast]
  exact List.getElem?_eq_getElem h
theorem rngU_nat (n : Nat) : rngU 0 (n : Int) = (List.range n).map fun i => .int (i : Nat) := by
  unfold rngU
  rw [Int.sub_zero, Int.toNat_natCast]
  refine List.map_congr_left fun i _ => ?_
  rw [Int.zero_add]
def bBegin : S := (.seq (.ret (.lst (.cons (.comp [("cell", 1)] (.one 1) (.iSeq (.var 0)) .nil (.blt .int (.cons (.var 1) .nil))) (.cons (.int 0) (.cons (.int 0) (.cons (.int 7) .nil)))))) .skip)
theorem begin_ok {C : CE} {nx bk ct : SU → Hm → Prop} {rt : QU} {M : Hm} {ns : List Int} (hl : ns.length ≤ 63) (hq : ∀ (p : Addr × Addr) M', Sub M M' → Dr M' p → rt (.ref p.1) M') : wS C bBegin ⟨nx, rt, bk, ct⟩ (startU 2 [.rol (ns.map U.int)]) M := by
  unfold bBegin
  (repeat decreasing_trivial_pre_omega)
  refine compL_by (fun don rest acc M' => M' = M ∧ acc = don.map U.int) ns ⟨rfl, rfl⟩ ?_ ?_
  · intro don x rest acc M' k e ⟨e1, e2⟩ hk
    subst e1 e2
    (repeat decreasing_trivial_pre_omega)
    refine hk _ _ trivial (fun _ => ?_) ⟨rfl, by simp⟩
    have : don.length ≤ ns.length := by rw [← e]; simp
    simp [LIM]
    omega
  · intro acc M' ⟨e1, e2⟩
    subst e1 e2
    (repeat decreasing_trivial_pre_omega)
    intro q hq0
    (repeat decreasing_trivial_pre_omega)
    intro p hp0
    refine hq (p, q) _ ?_ ⟨ns, 0, 0, 7, ?_, um_same, ?_, by decide⟩
    · exact sub_um (sub_um (Sub.refl _) hq0) (um_none hp0)
    · intro e; have e : q = p := e; subst e; rw [um_same] at hp0; cases hp0
    · exact um_old um_same hp0
theorem snocs {α : Type} {P : List α → Prop} (h0 : P []) (h1 : ∀ l x, P l → P (l ++ [x])) (l : List α) : P l := by
  suffices h : ∀ (r d : List α), P d → P (d ++ r) from h l [] h0
  intro r
  induction r with
  | nil => intro d h; rwa [List.append_nil]
  | cons x r ih => intro d h; have := ih (d ++ [x]) (h1 d x h); rwa [List.append_assoc] at this
/-! dicts as rows of pairs -/
theorem cutU_take {α : Type} (l : List α) (n : Nat) : cutU l none (some (n : Int)) = l.take n := by
  unfold cutU HT.sIx
  simp only [List.drop_zero, Nat.sub_zero]
  rw [if_neg (by omega), Int.toNat_natCast]
  rcases Nat.le_total n l.length with h | h
  · rw [Nat.min_eq_left h]
  · rw [Nat.min_eq_right h, List.take_length, List.take_of_length_le h]
theorem pd_tup (x : U) (l : List U) : pd (.tup (x :: l)) = .tuple (pd x :: pdL l) := by simp [pd, pdL]
end Pl

set_option maxHeartbeats 4000000
/-! the text's small syntax, its check, its head: printed by wip/gen.py -/
namespace K80
open PySem L2 Pl
/-- is_int -/
def b0 : S := (.seq (.ret (.ands (.cons (.isinst (.var 0) "int") (.cons (.not (.isinst (.var 0) "bool")) .nil)))) .skip)
def d0 : Df := { name := "is_int", ps := ["thing"], N := ["thing"], b := b0 }
/-- is_content -/
def b1 : S := (.seq (.ret (.ands (.cons (.call 0 (.cons (.var 1) .nil)) (.cons (.chain .le .lt (.neg (.int 1)) (.var 1) (.var 0)) .nil)))) .skip)
def d1 : Df := { name := "is_content", ps := ["kinds", "thing"], N := ["kinds", "thing"], b := b1 }
/-- writes_done -/
def b2 : S := (.seq (.ifs (.ors (.cons (.isN (.var 1)) (.cons (.cmp .ge (.ix (.var 1) (.int 0)) (.var 0)) .nil))) (.seq (.ret (.tup (.cons (.var 0) (.cons (.bl false) .nil)))) .skip) .skip) (.seq (.ret (.tup (.cons (.ix (.var 1) (.int 0)) (.cons (.ix (.var 1) (.int 1)) .nil)))) .skip))
def d2 : Df := { name := "writes_done", ps := ["many", "cut"], N := ["many", "cut"], b := b2 }
/-- small_writes -/
def b3 : S := (.seq (.ret (.blt .tuple (.cons (.comp [("word", 2)] (.one 2) (.iSeq (.var 0)) (.ors (.cons (.cmp .ne (.var 2) (.str "files")) (.cons (.cmp .ne (.var 1) (.neg (.int 1))) .nil))) (.var 2)) .nil))) .skip)
def d3 : Df := { name := "small_writes", ps := ["steps", "content"], N := ["steps", "content", "word"], b := b3 }
/-- small_step -/
def b4 : S := (.seq (.asgT [3, 4] (.var 1)) (.seq (.asgT [5, 6] (.var 2)) (.seq (.asg 7 (.call 3 (.cons (.var 0) (.cons (.var 5) .nil)))) (.seq (.asgT [8, 9] (.call 2 (.cons (.blt .len (.cons (.var 7) .nil)) (.cons (.var 6) .nil)))) (.seq (.for_ (.one 10) (.iSeq (.slice (.var 7) .nil (.var 8))) (.seq (.ifs (.cmp .eq (.var 10) (.str "files")) (.seq (.asg 4 (.var 5)) .skip) (.seq (.ifs (.cmp .eq (.var 10) (.str "paper")) (.seq (.asg 3 (.var 5)) .skip) (.seq (.asg 3 (.gint "EMPTY" (-3))) .skip)) .skip)) .skip)) (.seq (.ifs (.ands (.cons (.var 9) (.cons (.cmp .eq (.ix (.var 7) (.var 8)) (.str "files")) .nil))) (.seq (.asg 4 (.gint "TORN" (-2))) .skip) (.seq (.ifs (.var 9) (.seq (.asg 3 (.gint "TORN" (-2))) .skip) .skip) .skip)) (.seq (.ret (.tup (.cons (.var 3) (.cons (.var 4) .nil)))) .skip)))))))
def d4 : Df := { name := "small_step", ps := ["steps", "state", "small"], N := ["steps", "state", "small", "paper", "cell", "content", "cut", "writes", "many", "torn", "word"], b := b4 }
/-- is_wrong -/
def b5 : S := (.seq (.asgT [2, 3] (.var 1)) (.seq (.ifs (.ors (.cons (.cmp .lt (.var 2) (.int 0)) (.cons (.cmp .eq (.var 2) (.var 3)) .nil))) (.seq (.ret (.bl false)) .skip) .skip) (.seq (.ifs (.cmp .eq (.blt .len (.cons (.var 0) .nil)) (.int 0)) (.seq (.ret (.bl true)) .skip) .skip) (.seq (.ret (.ands (.cons (.cmp .ge (.var 3) (.int 0)) (.cons (.cmp .eq (.ix (.var 0) (.bin .add (.var 3) (.int 1))) (.ix (.var 0) (.bin .add (.var 2) (.int 1)))) .nil)))) .skip))))
def d5 : Df := { name := "is_wrong", ps := ["classes", "state"], N := ["classes", "state", "paper", "cell"], b := b5 }
/-- cuts_of -/
def b6 : S := (.seq (.asg 1 (.lst .nil)) (.seq (.for_ (.one 2) (.iRange (.var 0)) (.seq (.expr (.mth .append (.var 1) (.cons (.tup (.cons (.var 2) (.cons (.bl false) .nil))) .nil))) (.seq (.expr (.mth .append (.var 1) (.cons (.tup (.cons (.var 2) (.cons (.bl true) .nil))) .nil))) .skip))) (.seq (.expr (.mth .append (.var 1) (.cons .non .nil))) (.seq (.ret (.blt .tuple (.cons (.var 1) .nil))) .skip))))
def d6 : Df := { name := "cuts_of", ps := ["many"], N := ["many", "found", "number"], b := b6 }
/-- small_stores -/
def b7 : S := (.seq (.asg 2 (.lst .nil)) (.seq (.for_ (.one 3) (.iRange2 (.neg (.int 1)) (.var 0)) (.seq (.for_ (.one 4) (.iSeq (.call 6 (.cons (.blt .len (.cons (.call 3 (.cons (.var 1) (.cons (.var 3) .nil))) .nil)) .nil))) (.seq (.expr (.mth .append (.var 2) (.cons (.tup (.cons (.var 3) (.cons (.var 4) .nil))) .nil))) .skip)) .skip)) (.seq (.ret (.blt .tuple (.cons (.var 2) .nil))) .skip)))
def d7 : Df := { name := "small_stores", ps := ["kinds", "steps"], N := ["kinds", "steps", "found", "content", "cut"], b := b7 }
/-- is_small_state -/
def b8 : S := (.seq (.ifs (.ors (.cons (.not (.isinst (.var 1) "tuple")) (.cons (.cmp .ne (.blt .len (.cons (.var 1) .nil)) (.int 2)) .nil))) (.seq (.ret (.bl false)) .skip) .skip) (.seq (.asgT [2, 3] (.var 1)) (.seq (.ifs (.ors (.cons (.not (.call 0 (.cons (.var 2) .nil))) (.cons (.not (.call 0 (.cons (.var 3) .nil))) .nil))) (.seq (.ret (.bl false)) .skip) .skip) (.seq (.ret (.ands (.cons (.chain .le .lt (.gint "EMPTY" (-3)) (.var 2) (.var 0)) (.cons (.chain .le .lt (.gint "EMPTY" (-3)) (.var 3) (.var 0)) (.cons (.cmp .ne (.var 3) (.neg (.int 1))) .nil))))) .skip))))
def d8 : Df := { name := "is_small_state", ps := ["kinds", "thing"], N := ["kinds", "thing", "paper", "cell"], b := b8 }
/-- is_cut -/
def b9 : S := (.seq (.ifs (.isN (.var 0)) (.seq (.ret (.bl true)) .skip) .skip) (.seq (.ifs (.ors (.cons (.not (.isinst (.var 0) "tuple")) (.cons (.cmp .ne (.blt .len (.cons (.var 0) .nil)) (.int 2)) .nil))) (.seq (.ret (.bl false)) .skip) .skip) (.seq (.ret (.ands (.cons (.call 0 (.cons (.ix (.var 0) (.int 0)) .nil)) (.cons (.cmp .ge (.ix (.var 0) (.int 0)) (.int 0)) (.cons (.isinst (.ix (.var 0) (.int 1)) "bool") .nil))))) .skip)))
def d9 : Df := { name := "is_cut", ps := ["thing"], N := ["thing"], b := b9 }
/-- is_small_store -/
def b10 : S := (.seq (.ifs (.ors (.cons (.not (.isinst (.var 1) "tuple")) (.cons (.cmp .ne (.blt .len (.cons (.var 1) .nil)) (.int 2)) .nil))) (.seq (.ret (.bl false)) .skip) .skip) (.seq (.ret (.ands (.cons (.call 1 (.cons (.var 0) (.cons (.ix (.var 1) (.int 0)) .nil))) (.cons (.call 9 (.cons (.ix (.var 1) (.int 1)) .nil)) .nil)))) .skip))
def d10 : Df := { name := "is_small_store", ps := ["kinds", "thing"], N := ["kinds", "thing"], b := b10 }
/-- cut_table -/
def b11 : S := (.seq (.asgT [2, 3] (.var 1)) (.seq (.asg 4 (.call 7 (.cons (.var 0) (.cons (.var 2) .nil)))) (.seq (.asg 5 (.ddispN (.gtup "START" [(-3), (-3)]) (.tup .nil))) (.seq (.asg 6 (.lst (.cons (.gtup "START" [(-3), (-3)]) .nil))) (.seq (.asg 7 (.int 0)) (.seq (.whl (.cmp .lt (.var 7) (.blt .len (.cons (.var 6) .nil))) (.seq (.asg 8 (.ix (.var 6) (.var 7))) (.seq (.asg 7 (.bin .add (.var 7) (.int 1))) (.seq (.for_ (.one 9) (.iSeq (.var 4)) (.seq (.asg 10 (.call 4 (.cons (.var 2) (.cons (.var 8) (.cons (.var 9) .nil))))) (.seq (.ifs (.cmp .notin (.var 10) (.var 5)) (.seq (.setIx (.var 5) (.var 10) (.bin .add (.ix (.var 5) (.var 8)) (.tup (.cons (.var 9) .nil)))) (.seq (.expr (.mth .append (.var 6) (.cons (.var 10) .nil))) (.seq (.ifs (.call 5 (.cons (.var 3) (.cons (.var 10) .nil))) (.seq (.ret (.tup (.cons (.str "unsafe") (.cons (.ix (.var 5) (.var 10)) .nil)))) .skip) .skip) .skip))) .skip) .skip))) .skip)))) (.seq (.ret (.tup (.cons (.str "safe") (.cons (.blt .tuple (.cons (.blt .sorted (.cons (.var 6) .nil)) .nil)) .nil)))) .skip)))))))
def d11 : Df := { name := "cut_table", ps := ["kinds", "keeping"], N := ["kinds", "keeping", "steps", "classes", "smalls", "rows", "line", "place", "state", "small", "after"], b := b11 }
/-- are_closed -/
def b12 : S := (.seq (.asg 3 .dnewN) (.seq (.for_ (.one 4) (.iSeq (.var 2)) (.seq (.setIx (.var 3) (.var 4) (.bl true)) .skip)) (.seq (.asg 5 (.call 7 (.cons (.var 0) (.cons (.var 1) .nil)))) (.seq (.for_ (.one 4) (.iSeq (.blt .list (.cons (.var 3) .nil))) (.seq (.for_ (.one 6) (.iSeq (.var 5)) (.seq (.ifs (.cmp .notin (.call 4 (.cons (.var 1) (.cons (.var 4) (.cons (.var 6) .nil)))) (.var 3)) (.seq (.ret (.bl false)) .skip) .skip) .skip)) .skip)) (.seq (.ret (.bl true)) .skip)))))
def d12 : Df := { name := "are_closed", ps := ["kinds", "steps", "states"], N := ["kinds", "steps", "states", "known", "state", "smalls", "small"], b := b12 }
/-- shows_safe -/
def b13 : S := (.seq (.asgT [3, 4] (.var 1)) (.seq (.ifs (.not (.blt .all (.cons (.comp [("state", 5)] (.one 5) (.iSeq (.var 2)) .nil (.call 8 (.cons (.var 0) (.cons (.var 5) .nil)))) .nil))) (.seq (.ret (.bl false)) .skip) .skip) (.seq (.ifs (.ors (.cons (.cmp .notin (.gtup "START" [(-3), (-3)]) (.var 2)) (.cons (.blt .any (.cons (.comp [("state", 5)] (.one 5) (.iSeq (.var 2)) .nil (.call 5 (.cons (.var 4) (.cons (.var 5) .nil)))) .nil)) .nil))) (.seq (.ret (.bl false)) .skip) .skip) (.seq (.ret (.call 12 (.cons (.var 0) (.cons (.var 3) (.cons (.var 2) .nil))))) .skip))))
def d13 : Df := { name := "shows_safe", ps := ["kinds", "keeping", "states"], N := ["kinds", "keeping", "states", "steps", "classes", "state"], b := b13 }
/-- shows_unsafe -/
def b14 : S := (.seq (.asgT [3, 4] (.var 1)) (.seq (.ifs (.not (.blt .all (.cons (.comp [("small", 5)] (.one 5) (.iSeq (.var 2)) .nil (.call 10 (.cons (.var 0) (.cons (.var 5) .nil)))) .nil))) (.seq (.ret (.bl false)) .skip) .skip) (.seq (.asg 6 (.gtup "START" [(-3), (-3)])) (.seq (.for_ (.one 5) (.iSeq (.var 2)) (.seq (.asg 6 (.call 4 (.cons (.var 3) (.cons (.var 6) (.cons (.var 5) .nil))))) .skip)) (.seq (.ret (.call 5 (.cons (.var 4) (.cons (.var 6) .nil)))) .skip)))))
def d14 : Df := { name := "shows_unsafe", ps := ["kinds", "keeping", "smalls"], N := ["kinds", "keeping", "smalls", "steps", "classes", "small", "state"], b := b14 }
/-- judge_cut -/
def b15 : S := (.seq (.ifs (.ors (.cons (.not (.isinst (.var 2) "tuple")) (.cons (.cmp .ne (.blt .len (.cons (.var 2) .nil)) (.int 2)) (.cons (.not (.isinst (.ix (.var 2) (.int 1)) "tuple")) .nil)))) (.seq (.ret (.bl false)) .skip) .skip) (.seq (.ifs (.cmp .eq (.ix (.var 2) (.int 0)) (.str "safe")) (.seq (.ret (.call 13 (.cons (.var 0) (.cons (.var 1) (.cons (.ix (.var 2) (.int 1)) .nil))))) .skip) .skip) (.seq (.ret (.ands (.cons (.cmp .eq (.ix (.var 2) (.int 0)) (.str "unsafe")) (.cons (.call 14 (.cons (.var 0) (.cons (.var 1) (.cons (.ix (.var 2) (.int 1)) .nil)))) .nil)))) .skip)))
def d15 : Df := { name := "judge_cut", ps := ["kinds", "keeping", "paper"], N := ["kinds", "keeping", "paper"], b := b15 }
/-- safe_orders -/
def b16 : S := (.seq (.ret (.blt .tuple (.cons (.comp [("steps", 2)] (.one 2) (.iSeq (.gdat "ORDERS" (.dtp [(.dtp [(.str "drop"), (.str "files"), (.str "paper")]), (.dtp [(.str "drop"), (.str "paper"), (.str "files")]), (.dtp [(.str "files"), (.str "drop"), (.str "paper")]), (.dtp [(.str "files"), (.str "paper")]), (.dtp [(.str "files"), (.str "paper"), (.str "drop")]), (.dtp [(.str "paper"), (.str "drop"), (.str "files")]), (.dtp [(.str "paper"), (.str "files")]), (.dtp [(.str "paper"), (.str "files"), (.str "drop")])]))) (.cmp .eq (.ix (.call 11 (.cons (.var 0) (.cons (.tup (.cons (.var 2) (.cons (.var 1) .nil))) .nil))) (.int 0)) (.str "safe")) (.var 2)) .nil))) .skip)
def d16 : Df := { name := "safe_orders", ps := ["kinds", "classes"], N := ["kinds", "classes", "steps"], b := b16 }
/-- _law_begin -/
def b17 : S := (.seq (.ret (.lst (.cons (.comp [("cell", 1)] (.one 1) (.iSeq (.var 0)) .nil (.blt .int (.cons (.var 1) .nil))) (.cons (.int 0) (.cons (.int 0) (.cons (.int 7) .nil)))))) .skip)
def d17 : Df := { name := "_law_begin", ps := ["script"], N := ["script", "cell"], b := b17 }
/-- _law_draw -/
def b18 : S := (.seq (.ifs (.cmp .gt (.ix (.var 0) (.int 2)) (.int 0)) (.seq (.asg 2 (.ix (.var 0) (.int 2))) (.seq (.setIx (.var 0) (.int 2) (.bin .fdiv (.var 2) (.var 1))) (.seq (.ret (.bin .mod (.blt .int (.cons (.var 2) .nil)) (.var 1))) .skip))) .skip) (.seq (.asg 3 (.int 0)) (.seq (.ifs (.cmp .lt (.ix (.var 0) (.int 1)) (.blt .len (.cons (.ix (.var 0) (.int 0)) .nil))) (.seq (.asg 4 (.ix (.ix (.var 0) (.int 0)) (.ix (.var 0) (.int 1)))) (.seq (.asg 3 (.bin .add (.bin .mul (.int 2) (.blt .abs (.cons (.var 4) .nil))) (.blt .int (.cons (.cmp .lt (.var 4) (.int 0)) .nil)))) .skip)) .skip) (.seq (.augIx (.var 0) (.int 1) .add (.int 1)) (.seq (.ifs (.cmp .ge (.var 3) (.bin .mul (.int 2) (.bin .pow (.int 10) (.int 18)))) (.seq (.asg 2 (.bin .mod (.blt .int (.cons (.bin .fdiv (.var 3) (.int 2)) .nil)) (.bin .shl (.int 1) (.int 6000)))) (.seq (.setIx (.var 0) (.int 2) (.bin .fdiv (.var 2) (.var 1))) (.seq (.ret (.bin .mod (.blt .int (.cons (.var 2) .nil)) (.var 1))) .skip))) .skip) (.seq (.setIx (.var 0) (.int 3) (.bin .mod (.blt .int (.cons (.bin .add (.bin .add (.bin .add (.bin .mul (.ix (.var 0) (.int 3)) (.int 48271)) (.bin .mul (.bin .mod (.blt .int (.cons (.var 3) .nil)) (.int 2147483629)) (.int 16807))) (.bin .mul (.ix (.var 0) (.int 1)) (.int 69621))) (.int 11)) .nil)) (.int 2147483647))) (.seq (.ret (.bin .mod (.blt .int (.cons (.bin .fdiv (.ix (.var 0) (.int 3)) (.int 16)) .nil)) (.var 1))) .skip)))))))
def d18 : Df := { name := "_law_draw", ps := ["d", "many"], N := ["d", "many", "found", "size", "cell"], b := b18 }
/-- _law_pick -/
def b19 : S := (.seq (.ret (.ix (.var 1) (.call 18 (.cons (.var 0) (.cons (.blt .len (.cons (.var 1) .nil)) .nil))))) .skip)
def d19 : Df := { name := "_law_pick", ps := ["d", "row"], N := ["d", "row"], b := b19 }
/-- _law_pop -/
def b20 : S := (.seq (.ret (.mth .popAt (.var 1) (.cons (.call 18 (.cons (.var 0) (.cons (.blt .len (.cons (.var 1) .nil)) .nil))) .nil))) .skip)
def d20 : Df := { name := "_law_pop", ps := ["d", "row"], N := ["d", "row"], b := b20 }
/-- _law_is_int -/
def b21 : S := (.seq (.ret (.ands (.cons (.isinst (.var 0) "int") (.cons (.not (.isinst (.var 0) "bool")) .nil)))) .skip)
def d21 : Df := { name := "_law_is_int", ps := ["thing"], N := ["thing"], b := b21 }
/-- _law_same -/
def b22 : S := (.seq (.ifs (.isinst (.var 1) "tuple") (.seq (.ifs (.ors (.cons (.not (.isinst (.var 0) "tuple")) (.cons (.cmp .ne (.blt .len (.cons (.var 0) .nil)) (.blt .len (.cons (.var 1) .nil))) .nil))) (.seq (.ret (.bl false)) .skip) .skip) (.seq (.for_ (.one 2) (.iRange (.blt .len (.cons (.var 1) .nil))) (.seq (.ifs (.not (.call 22 (.cons (.ix (.var 0) (.var 2)) (.cons (.ix (.var 1) (.var 2)) .nil)))) (.seq (.ret (.bl false)) .skip) .skip) .skip)) (.seq (.ret (.bl true)) .skip))) .skip) (.seq (.ifs (.isN (.var 1)) (.seq (.ret (.isN (.var 0))) .skip) .skip) (.seq (.ifs (.isinst (.var 1) "bool") (.seq (.ret (.ands (.cons (.isinst (.var 0) "bool") (.cons (.cmp .eq (.var 0) (.var 1)) .nil)))) .skip) .skip) (.seq (.ifs (.isinst (.var 1) "int") (.seq (.ret (.ands (.cons (.call 21 (.cons (.var 0) .nil)) (.cons (.cmp .eq (.var 0) (.var 1)) .nil)))) .skip) .skip) (.seq (.ret (.ands (.cons (.isinst (.var 0) "str") (.cons (.cmp .eq (.var 0) (.var 1)) .nil)))) .skip)))))
def d22 : Df := { name := "_law_same", ps := ["told", "due"], N := ["told", "due", "k"], b := b22 }
/-- _law_orders -/
def b23 : S := (.seq (.ret (.lst (.cons (.tup (.cons (.str "drop") (.cons (.str "files") (.cons (.str "paper") .nil)))) (.cons (.tup (.cons (.str "drop") (.cons (.str "paper") (.cons (.str "files") .nil)))) (.cons (.tup (.cons (.str "files") (.cons (.str "drop") (.cons (.str "paper") .nil)))) (.cons (.tup (.cons (.str "files") (.cons (.str "paper") .nil))) (.cons (.tup (.cons (.str "files") (.cons (.str "paper") (.cons (.str "drop") .nil)))) (.cons (.tup (.cons (.str "paper") (.cons (.str "drop") (.cons (.str "files") .nil)))) (.cons (.tup (.cons (.str "paper") (.cons (.str "files") .nil))) (.cons (.tup (.cons (.str "paper") (.cons (.str "files") (.cons (.str "drop") .nil)))) .nil)))))))))) .skip)
def d23 : Df := { name := "_law_orders", ps := [], N := [], b := b23 }
/-- _law_keeping -/
def b24 : S := (.seq (.asg 2 (.call 23 .nil)) (.seq (.asg 3 (.call 19 (.cons (.var 0) (.cons (.bin .add (.var 2) (.bin .mul (.slice (.var 2) .nil (.int 1)) (.int 3))) .nil)))) (.seq (.asg 4 (.call 18 (.cons (.var 0) (.cons (.int 3) .nil)))) (.seq (.ifs (.cmp .eq (.var 4) (.int 0)) (.seq (.ret (.tup (.cons (.var 3) (.cons (.lrng true .nil (.bin .add (.var 1) (.int 1))) .nil)))) .skip) .skip) (.seq (.ifs (.cmp .eq (.var 4) (.int 1)) (.seq (.ret (.tup (.cons (.var 3) (.cons (.tup .nil) .nil)))) .skip) .skip) (.seq (.ret (.tup (.cons (.var 3) (.cons (.blt .tuple (.cons (.comp [("k", 5)] (.one 5) (.iRange (.bin .add (.var 1) (.int 1))) .nil (.call 18 (.cons (.var 0) (.cons (.bin .add (.var 1) (.int 1)) .nil)))) .nil)) .nil)))) .skip))))))
def d24 : Df := { name := "_law_keeping", ps := ["d", "kinds"], N := ["d", "kinds", "orders", "steps", "way", "k"], b := b24 }
/-- _law_smalls -/
def b25 : S := (.seq (.asg 2 (.lst .nil)) (.seq (.for_ (.one 3) (.iRange2 (.neg (.int 1)) (.var 0)) (.seq (.for_ (.one 4) (.iRange (.bin .sub (.blt .len (.cons (.var 1) .nil)) (.blt .int (.cons (.cmp .eq (.var 3) (.neg (.int 1))) .nil)))) (.seq (.expr (.mth .append (.var 2) (.cons (.tup (.cons (.var 3) (.cons (.tup (.cons (.var 4) (.cons (.bl false) .nil))) .nil))) .nil))) (.seq (.expr (.mth .append (.var 2) (.cons (.tup (.cons (.var 3) (.cons (.tup (.cons (.var 4) (.cons (.bl true) .nil))) .nil))) .nil))) .skip))) (.seq (.expr (.mth .append (.var 2) (.cons (.tup (.cons (.var 3) (.cons .non .nil))) .nil))) .skip))) (.seq (.ret (.var 2)) .skip)))
def d25 : Df := { name := "_law_smalls", ps := ["kinds", "steps"], N := ["kinds", "steps", "found", "content", "at"], b := b25 }
/-- _law_effect -/
def b26 : S := (.seq (.asg 2 (.comp [("word", 3)] (.one 3) (.iSeq (.var 0)) (.ors (.cons (.cmp .ne (.var 3) (.str "files")) (.cons (.cmp .ne (.ix (.var 1) (.int 0)) (.neg (.int 1))) .nil))) (.var 3))) (.seq (.asg 4 (.blt .len (.cons (.var 2) .nil))) (.seq (.ifs (.notN (.ix (.var 1) (.int 1))) (.seq (.asg 4 (.blt .min (.cons (.ix (.ix (.var 1) (.int 1)) (.int 0)) (.cons (.var 4) .nil)))) .skip) .skip) (.seq (.asg 5 .non) (.seq (.asg 6 .non) (.seq (.for_ (.one 3) (.iSeq (.slice (.var 2) .nil (.var 4))) (.seq (.ifs (.cmp .eq (.var 3) (.str "files")) (.seq (.asg 6 (.ix (.var 1) (.int 0))) .skip) .skip) (.seq (.ifs (.cmp .eq (.var 3) (.str "paper")) (.seq (.asg 5 (.ix (.var 1) (.int 0))) .skip) .skip) (.seq (.ifs (.cmp .eq (.var 3) (.str "drop")) (.seq (.asg 5 (.neg (.int 3))) .skip) .skip) .skip)))) (.seq (.ifs (.ands (.cons (.cmp .lt (.var 4) (.blt .len (.cons (.var 2) .nil))) (.cons (.ix (.ix (.var 1) (.int 1)) (.int 1)) .nil))) (.seq (.ifs (.cmp .eq (.ix (.var 2) (.var 4)) (.str "files")) (.seq (.asg 6 (.neg (.int 2))) .skip) (.seq (.asg 5 (.neg (.int 2))) .skip)) .skip) .skip) (.seq (.ret (.tup (.cons (.var 5) (.cons (.var 6) .nil)))) .skip))))))))
def d26 : Df := { name := "_law_effect", ps := ["steps", "small"], N := ["steps", "small", "words", "word", "many", "paper", "cell"], b := b26 }
/-- _law_after -/
def b27 : S := (.seq (.asg 2 (.ite (.isN (.ix (.var 1) (.int 0))) (.ix (.var 0) (.int 0)) (.ix (.var 1) (.int 0)))) (.seq (.asg 3 (.ite (.isN (.ix (.var 1) (.int 1))) (.ix (.var 0) (.int 1)) (.ix (.var 1) (.int 1)))) (.seq (.ret (.tup (.cons (.var 2) (.cons (.var 3) .nil)))) .skip)))
def d27 : Df := { name := "_law_after", ps := ["state", "effect"], N := ["state", "effect", "paper", "cell"], b := b27 }
/-- _law_wrong -/
def b28 : S := (.seq (.asgT [2, 3] (.var 1)) (.seq (.ifs (.cmp .lt (.var 2) (.int 0)) (.seq (.ret (.bl false)) .skip) .skip) (.seq (.ifs (.var 0) (.seq (.ifs (.ors (.cons (.cmp .lt (.var 3) (.int 0)) (.cons (.cmp .ne (.ix (.var 0) (.bin .add (.var 3) (.int 1))) (.ix (.var 0) (.bin .add (.var 2) (.int 1)))) .nil))) (.seq (.ret (.bl false)) .skip) .skip) .skip) .skip) (.seq (.ret (.cmp .ne (.var 3) (.var 2))) .skip))))
def d28 : Df := { name := "_law_wrong", ps := ["classes", "state"], N := ["classes", "state", "paper", "cell"], b := b28 }
/-- _law_reached -/
def b29 : S := (.seq (.asg 2 (.blt .list (.cons (.var 0) .nil))) (.seq (.asg 3 .dnewN) (.seq (.for_ (.one 4) (.iSeq (.var 0)) (.seq (.setIx (.var 3) (.var 4) (.bl true)) .skip)) (.seq (.for_ (.one 5) (.iRange (.int 99)) (.seq (.ifs (.cmp .ge (.var 5) (.blt .len (.cons (.var 2) .nil))) (.seq .brk .skip) .skip) (.seq (.for_ (.one 6) (.iSeq (.var 1)) (.seq (.asg 7 (.call 27 (.cons (.ix (.var 2) (.var 5)) (.cons (.var 6) .nil)))) (.seq (.ifs (.cmp .notin (.var 7) (.var 3)) (.seq (.setIx (.var 3) (.var 7) (.bl true)) (.seq (.expr (.mth .append (.var 2) (.cons (.var 7) .nil))) .skip)) .skip) .skip))) .skip))) (.seq (.ret (.var 2)) .skip)))))
def d29 : Df := { name := "_law_reached", ps := ["starts", "effects"], N := ["starts", "effects", "found", "met", "state", "k", "effect", "after"], b := b29 }
/-- _law_effects -/
def b30 : S := (.seq (.asg 2 (.lst .nil)) (.seq (.for_ (.one 3) (.iSeq (.call 25 (.cons (.var 0) (.cons (.var 1) .nil)))) (.seq (.asg 4 (.call 26 (.cons (.var 1) (.cons (.var 3) .nil)))) (.seq (.ifs (.cmp .notin (.var 4) (.var 2)) (.seq (.expr (.mth .append (.var 2) (.cons (.var 4) .nil))) .skip) .skip) .skip))) (.seq (.ret (.var 2)) .skip)))
def d30 : Df := { name := "_law_effects", ps := ["kinds", "steps"], N := ["kinds", "steps", "found", "small", "effect"], b := b30 }
/-- _law_is_safe -/
def b31 : S := (.seq (.for_ (.one 2) (.iSeq (.call 29 (.cons (.lst (.cons (.tup (.cons (.neg (.int 3)) (.cons (.neg (.int 3)) .nil))) .nil)) (.cons (.call 30 (.cons (.var 0) (.cons (.ix (.var 1) (.int 0)) .nil))) .nil)))) (.seq (.ifs (.call 28 (.cons (.ix (.var 1) (.int 1)) (.cons (.var 2) .nil))) (.seq (.ret (.bl false)) .skip) .skip) .skip)) (.seq (.ret (.bl true)) .skip))
def d31 : Df := { name := "_law_is_safe", ps := ["kinds", "keeping"], N := ["kinds", "keeping", "state"], b := b31 }
/-- _law_left -/
def b32 : S := (.seq (.asg 2 (.call 30 (.cons (.var 0) (.cons (.ix (.var 1) (.int 0)) .nil)))) (.seq (.asg 3 (.call 29 (.cons (.lst (.cons (.tup (.cons (.neg (.int 3)) (.cons (.neg (.int 3)) .nil))) .nil)) (.cons (.var 2) .nil)))) (.seq (.asg 4 .dnewN) (.seq (.for_ (.one 5) (.iSeq (.var 3)) (.seq (.ifs (.call 28 (.cons (.ix (.var 1) (.int 1)) (.cons (.var 5) .nil))) (.seq (.setIx (.var 4) (.var 5) (.int 0)) .skip) .skip) .skip)) (.seq (.for_ (.one 6) (.iRange2 (.int 1) (.int 50)) (.seq (.asg 7 (.lst .nil)) (.seq (.for_ (.one 5) (.iSeq (.var 3)) (.seq (.ifs (.ands (.cons (.cmp .notin (.var 5) (.var 4)) (.cons (.cmp .isin (.bin .sub (.var 6) (.int 1)) (.comp [("effect", 8)] (.one 8) (.iSeq (.var 2)) .nil (.dgetN (.var 4) (.call 27 (.cons (.var 5) (.cons (.var 8) .nil))) (.int 99)))) .nil))) (.seq (.expr (.mth .append (.var 7) (.cons (.var 5) .nil))) .skip) .skip) .skip)) (.seq (.ifs (.not (.var 7)) (.seq .brk .skip) .skip) (.seq (.for_ (.one 5) (.iSeq (.var 7)) (.seq (.setIx (.var 4) (.var 5) (.var 6)) .skip)) .skip))))) (.seq (.ret (.var 4)) .skip))))))
def d32 : Df := { name := "_law_left", ps := ["kinds", "keeping"], N := ["kinds", "keeping", "effects", "reached", "left", "state", "many", "fresh", "effect"], b := b32 }
/-- _law_row_from -/
def b33 : S := (.seq (.asg 4 (.lst .nil)) (.seq (.asg 5 (.call 25 (.cons (.var 0) (.cons (.ix (.var 1) (.int 0)) .nil)))) (.seq (.for_ (.one 6) (.iRange (.int 50)) (.seq (.asg 7 (.ix (.var 2) (.var 3))) (.seq (.ifs (.cmp .eq (.var 7) (.int 0)) (.seq .brk .skip) .skip) (.seq (.for_ (.one 8) (.iSeq (.var 5)) (.seq (.asg 9 (.call 27 (.cons (.var 3) (.cons (.call 26 (.cons (.ix (.var 1) (.int 0)) (.cons (.var 8) .nil))) .nil)))) (.seq (.ifs (.cmp .eq (.dgetN (.var 2) (.var 9) (.int 99)) (.bin .sub (.var 7) (.int 1))) (.seq (.expr (.mth .append (.var 4) (.cons (.var 8) .nil))) (.seq (.asg 3 (.var 9)) (.seq .brk .skip))) .skip) .skip))) .skip)))) (.seq (.ret (.blt .tuple (.cons (.var 4) .nil))) .skip))))
def d33 : Df := { name := "_law_row_from", ps := ["kinds", "keeping", "left", "state"], N := ["kinds", "keeping", "left", "state", "row", "smalls", "turn", "many", "small", "after"], b := b33 }
/-- _law_due -/
def b34 : S := (.seq (.ifs (.cmp .isin (.tup (.cons (.neg (.int 3)) (.cons (.neg (.int 3)) .nil))) (.var 2)) (.seq (.ret (.tup (.cons (.str "unsafe") (.cons (.call 33 (.cons (.var 0) (.cons (.var 1) (.cons (.var 2) (.cons (.tup (.cons (.neg (.int 3)) (.cons (.neg (.int 3)) .nil))) .nil))))) .nil)))) .skip) .skip) (.seq (.ret (.tup (.cons (.str "safe") (.cons (.blt .tuple (.cons (.blt .sorted (.cons (.call 29 (.cons (.lst (.cons (.tup (.cons (.neg (.int 3)) (.cons (.neg (.int 3)) .nil))) .nil)) (.cons (.call 30 (.cons (.var 0) (.cons (.ix (.var 1) (.int 0)) .nil))) .nil))) .nil)) .nil)) .nil)))) .skip))
def d34 : Df := { name := "_law_due", ps := ["kinds", "keeping", "left"], N := ["kinds", "keeping", "left"], b := b34 }
/-- _law_walked -/
def b35 : S := (.seq (.asg 2 (.tup (.cons (.neg (.int 3)) (.cons (.neg (.int 3)) .nil)))) (.seq (.for_ (.one 3) (.iSeq (.var 1)) (.seq (.asg 2 (.call 27 (.cons (.var 2) (.cons (.call 26 (.cons (.ix (.var 0) (.int 0)) (.cons (.var 3) .nil))) .nil)))) .skip)) (.seq (.ret (.var 2)) .skip)))
def d35 : Df := { name := "_law_walked", ps := ["keeping", "row"], N := ["keeping", "row", "state", "small"], b := b35 }
/-- _law_takes -/
def b36 : S := (.seq (.ifs (.cmp .eq (.ix (.var 2) (.int 0)) (.str "unsafe")) (.seq (.ret (.call 28 (.cons (.ix (.var 1) (.int 1)) (.cons (.call 35 (.cons (.var 1) (.cons (.ix (.var 2) (.int 1)) .nil))) .nil)))) .skip) .skip) (.seq (.asg 3 .dnewN) (.seq (.for_ (.one 4) (.iSeq (.ix (.var 2) (.int 1))) (.seq (.setIx (.var 3) (.var 4) (.bl true)) .skip)) (.seq (.asg 5 (.call 30 (.cons (.var 0) (.cons (.ix (.var 1) (.int 0)) .nil)))) (.seq (.for_ (.one 4) (.iSeq (.ix (.var 2) (.int 1))) (.seq (.ifs (.call 28 (.cons (.ix (.var 1) (.int 1)) (.cons (.var 4) .nil))) (.seq (.ret (.bl false)) .skip) .skip) (.seq (.for_ (.one 6) (.iSeq (.var 5)) (.seq (.ifs (.cmp .notin (.call 27 (.cons (.var 4) (.cons (.var 6) .nil))) (.var 3)) (.seq (.ret (.bl false)) .skip) .skip) .skip)) .skip))) (.seq (.ret (.cmp .isin (.tup (.cons (.neg (.int 3)) (.cons (.neg (.int 3)) .nil))) (.var 3))) .skip))))))
def d36 : Df := { name := "_law_takes", ps := ["kinds", "keeping", "paper"], N := ["kinds", "keeping", "paper", "met", "state", "effects", "effect"], b := b36 }
/-- _law_turned -/
def b37 : S := (.seq (.asg 2 (.call 18 (.cons (.var 0) (.cons (.blt .len (.cons (.var 1) .nil)) .nil)))) (.seq (.ret (.blt .tuple (.cons (.bin .add (.slice (.var 1) (.var 2) .nil) (.slice (.var 1) .nil (.var 2))) .nil))) .skip))
def d37 : Df := { name := "_law_turned", ps := ["d", "row"], N := ["d", "row", "at"], b := b37 }
/-- _law_states -/
def b38 : S := (.seq (.asg 3 (.call 30 (.cons (.var 1) (.cons (.var 2) .nil)))) (.seq (.asg 4 (.call 29 (.cons (.lst (.cons (.tup (.cons (.neg (.int 3)) (.cons (.neg (.int 3)) .nil))) .nil)) (.cons (.var 3) .nil)))) (.seq (.asg 5 (.lst (.cons (.tup (.cons (.neg (.int 3)) (.cons (.neg (.int 3)) .nil))) .nil))) (.seq (.for_ (.one 6) (.iRange (.bin .add (.int 1) (.call 18 (.cons (.var 0) (.cons (.int 2) .nil))))) (.seq (.asg 7 (.tup (.cons (.bin .sub (.call 18 (.cons (.var 0) (.cons (.bin .add (.var 1) (.int 3)) .nil))) (.int 3)) (.cons (.call 19 (.cons (.var 0) (.cons (.bin .add (.lst (.cons (.neg (.int 3)) (.cons (.neg (.int 2)) .nil))) (.lrng false .nil (.var 1))) .nil))) .nil)))) (.seq (.ifs (.cmp .notin (.var 7) (.var 5)) (.seq (.expr (.mth .append (.var 5) (.cons (.var 7) .nil))) .skip) .skip) .skip))) (.seq (.asg 8 (.comp [("state", 7)] (.one 7) (.iSeq (.var 4)) (.cmp .ne (.ix (.var 7) (.int 1)) (.neg (.int 3))) (.var 7))) (.seq (.asg 9 (.call 19 (.cons (.var 0) (.cons (.comp [("state", 7)] (.one 7) (.iSeq (.var 4)) (.cmp .ne (.var 7) (.tup (.cons (.neg (.int 3)) (.cons (.neg (.int 3)) .nil)))) (.var 7)) .nil)))) (.seq (.ret (.lst (.cons (.tup (.cons (.str "safe") (.cons (.call 37 (.cons (.var 0) (.cons (.var 4) .nil))) .nil))) (.cons (.tup (.cons (.str "safe") (.cons (.call 37 (.cons (.var 0) (.cons (.call 29 (.cons (.var 5) (.cons (.var 3) .nil))) .nil))) .nil))) (.cons (.tup (.cons (.str "safe") (.cons (.call 37 (.cons (.var 0) (.cons (.call 29 (.cons (.lst (.cons (.call 19 (.cons (.var 0) (.cons (.var 8) .nil))) .nil)) (.cons (.var 3) .nil))) .nil))) .nil))) (.cons (.tup (.cons (.str "safe") (.cons (.blt .tuple (.cons (.comp [("state", 7)] (.one 7) (.iSeq (.var 4)) (.cmp .ne (.var 7) (.var 9)) (.var 7)) .nil)) .nil))) (.cons (.tup (.cons (.str "safe") (.cons (.tup (.cons (.tup (.cons (.neg (.int 3)) (.cons (.neg (.int 3)) .nil))) .nil)) .nil))) (.cons (.tup (.cons (.str "safe") (.cons (.tup .nil) .nil))) .nil)))))))) .skip)))))))
def d38 : Df := { name := "_law_states", ps := ["d", "kinds", "steps"], N := ["d", "kinds", "steps", "effects", "reached", "starts", "k", "state", "begun", "gone"], b := b38 }
/-- _law_rows -/
def b39 : S := (.seq (.asg 4 (.lst .nil)) (.seq (.for_ (.one 5) (.iRange (.call 18 (.cons (.var 0) (.cons (.int 5) .nil)))) (.seq (.asg 6 (.bin .sub (.call 18 (.cons (.var 0) (.cons (.bin .add (.var 1) (.int 1)) .nil))) (.int 1))) (.seq (.asg 7 (.tup (.cons (.call 18 (.cons (.var 0) (.cons (.int 6) .nil))) (.cons (.cmp .eq (.call 18 (.cons (.var 0) (.cons (.int 2) .nil))) (.int 1)) .nil)))) (.seq (.expr (.mth .append (.var 4) (.cons (.tup (.cons (.var 6) (.cons (.ite (.cmp .eq (.call 18 (.cons (.var 0) (.cons (.int 3) .nil))) (.int 1)) .non (.var 7)) .nil))) .nil))) .skip)))) (.seq (.asg 8 (.lst (.cons (.tup (.cons (.str "unsafe") (.cons (.blt .tuple (.cons (.var 4) .nil)) .nil))) (.cons (.tup (.cons (.str "unsafe") (.cons (.tup .nil) .nil))) .nil)))) (.seq (.asg 9 (.call 35 (.cons (.var 2) (.cons (.var 4) .nil)))) (.seq (.ifs (.cmp .isin (.var 9) (.var 3)) (.seq (.asg 10 (.bin .add (.blt .tuple (.cons (.var 4) .nil)) (.call 33 (.cons (.var 1) (.cons (.var 2) (.cons (.var 3) (.cons (.var 9) .nil))))))) (.seq (.expr (.mth .append (.var 8) (.cons (.tup (.cons (.str "unsafe") (.cons (.var 10) .nil))) .nil))) (.seq (.expr (.mth .append (.var 8) (.cons (.tup (.cons (.str "unsafe") (.cons (.slice (.var 10) .nil (.bin .sub (.blt .len (.cons (.var 10) .nil)) (.int 1))) .nil))) .nil))) (.seq (.expr (.mth .append (.var 8) (.cons (.tup (.cons (.str "unsafe") (.cons (.bin .add (.var 10) (.tup (.cons (.ite (.var 4) (.call 19 (.cons (.var 0) (.cons (.var 4) .nil))) (.tup (.cons (.neg (.int 1)) (.cons .non .nil)))) .nil))) .nil))) .nil))) .skip)))) .skip) (.seq (.ret (.var 8)) .skip))))))
def d39 : Df := { name := "_law_rows", ps := ["d", "kinds", "keeping", "left"], N := ["d", "kinds", "keeping", "left", "row", "k", "content", "cut", "found", "state", "longer"], b := b39 }
/-- _law_odd -/
def b40 : S := (.seq (.asg 4 (.call 30 (.cons (.var 1) (.cons (.var 2) .nil)))) (.seq (.asg 5 (.call 29 (.cons (.lst (.cons (.tup (.cons (.neg (.int 3)) (.cons (.neg (.int 3)) .nil))) .nil)) (.cons (.var 4) .nil)))) (.seq (.asg 6 (.call 29 (.cons (.lst (.cons (.tup (.cons (.neg (.int 3)) (.cons (.neg (.int 3)) .nil))) (.cons (.call 19 (.cons (.var 0) (.cons (.lst (.cons (.tup (.cons (.neg (.int 3)) (.cons (.neg (.int 1)) .nil))) (.cons (.tup (.cons (.neg (.int 4)) (.cons (.neg (.int 3)) .nil))) (.cons (.tup (.cons (.neg (.int 3)) (.cons (.neg (.int 4)) .nil))) .nil)))) .nil))) .nil))) (.cons (.var 4) .nil)))) (.seq (.asg 7 (.call 19 (.cons (.var 0) (.cons (.lst (.cons .non (.cons (.str "x") (.cons (.int 0) (.cons (.tup .nil) (.cons (.tup (.cons (.neg (.int 3)) .nil)) (.cons (.tup (.cons (.neg (.int 3)) (.cons (.neg (.int 3)) (.cons (.neg (.int 3)) .nil)))) (.cons (.tup (.cons (.var 1) (.cons (.neg (.int 3)) .nil))) (.cons (.tup (.cons (.neg (.int 4)) (.cons (.neg (.int 3)) .nil))) (.cons (.tup (.cons (.neg (.int 3)) (.cons (.var 1) .nil))) (.cons (.tup (.cons (.neg (.int 3)) (.cons (.neg (.int 1)) .nil))) (.cons (.tup (.cons (.neg (.int 3)) (.cons (.neg (.int 4)) .nil))) (.cons (.tup (.cons (.str "") (.cons (.neg (.int 3)) .nil))) (.cons (.tup (.cons (.neg (.int 3)) (.cons .non .nil))) (.cons (.tup (.cons (.tup (.cons (.neg (.int 3)) (.cons (.neg (.int 3)) .nil))) (.cons (.neg (.int 3)) .nil))) .nil))))))))))))))) .nil)))) (.seq (.asg 8 (.call 19 (.cons (.var 0) (.cons (.lst (.cons .non (.cons (.str "x") (.cons (.int 0) (.cons (.tup .nil) (.cons (.tup (.cons (.int 0) .nil)) (.cons (.tup (.cons (.int 0) (.cons .non (.cons (.int 0) .nil)))) (.cons (.tup (.cons (.var 1) (.cons .non .nil))) (.cons (.tup (.cons (.neg (.int 2)) (.cons .non .nil))) (.cons (.tup (.cons (.str "x") (.cons .non .nil))) (.cons (.tup (.cons .non (.cons .non .nil))) (.cons (.tup (.cons (.int 0) (.cons (.int 0) .nil))) (.cons (.tup (.cons (.int 0) (.cons (.str "cut") .nil))) (.cons (.tup (.cons (.int 0) (.cons (.tup .nil) .nil))) (.cons (.tup (.cons (.int 0) (.cons (.tup (.cons (.int 0) .nil)) .nil))) (.cons (.tup (.cons (.int 0) (.cons (.tup (.cons (.neg (.int 1)) (.cons (.bl false) .nil))) .nil))) (.cons (.tup (.cons (.int 0) (.cons (.tup (.cons (.str "x") (.cons (.bl false) .nil))) .nil))) (.cons (.tup (.cons (.int 0) (.cons (.tup (.cons (.int 0) (.cons (.str "x") .nil))) .nil))) (.cons (.tup (.cons (.int 0) (.cons (.tup (.cons (.int 0) (.cons .non .nil))) .nil))) (.cons (.tup (.cons (.int 0) (.cons (.tup (.cons (.int 0) (.cons (.bl false) (.cons (.int 0) .nil)))) .nil))) .nil)))))))))))))))))))) .nil)))) (.seq (.asg 9 (.call 18 (.cons (.var 0) (.cons (.bin .add (.blt .len (.cons (.var 5) .nil)) (.int 1)) .nil)))) (.seq (.asg 10 (.blt .tuple (.cons (.var 5) .nil))) (.seq (.ret (.lst (.cons (.tup (.cons (.str "safe") (.cons (.bin .add (.bin .add (.slice (.var 10) .nil (.var 9)) (.tup (.cons (.var 7) .nil))) (.slice (.var 10) (.var 9) .nil)) .nil))) (.cons (.tup (.cons (.str "safe") (.cons (.blt .tuple (.cons (.var 6) .nil)) .nil))) (.cons (.tup (.cons (.str "unsafe") (.cons (.bin .add (.tup (.cons (.var 8) .nil)) (.var 3)) .nil))) (.cons (.tup (.cons (.str "unsafe") (.cons (.bin .add (.var 3) (.tup (.cons (.var 8) .nil))) .nil))) (.cons (.tup (.cons (.str "open") (.cons (.var 10) .nil))) (.cons (.tup (.cons (.str "unsafe") (.cons (.var 10) .nil))) (.cons (.tup (.cons (.str "safe") (.cons (.bin .add (.var 3) (.tup (.cons (.tup (.cons (.int 0) (.cons .non .nil))) .nil))) .nil))) (.cons (.var 10) (.cons (.tup (.cons (.str "safe") .nil)) (.cons (.tup .nil) (.cons .non (.cons (.int 0) (.cons (.str "safe") (.cons (.tup (.cons (.str "safe") (.cons (.var 10) (.cons (.var 10) .nil)))) (.cons (.tup (.cons (.str "safe") (.cons .non .nil))) (.cons (.tup (.cons (.str "safe") (.cons (.str "safe") .nil))) (.cons (.tup (.cons (.str "unsafe") (.cons (.int 0) .nil))) (.cons (.tup (.cons (.var 10) (.cons (.str "safe") .nil))) (.cons (.tup (.cons (.int 0) (.cons (.var 10) .nil))) .nil))))))))))))))))))))) .skip))))))))
def d40 : Df := { name := "_law_odd", ps := ["d", "kinds", "steps", "row"], N := ["d", "kinds", "steps", "row", "effects", "reached", "strange", "state", "small", "at", "states"], b := b40 }
/-- law -/
def b41 : S := (.seq (.asg 1 (.call 17 (.cons (.var 0) .nil))) (.seq (.asg 2 (.call 19 (.cons (.var 1) (.cons (.lst (.cons (.int 2) (.cons (.int 1) (.cons (.int 2) (.cons (.int 4) (.cons (.int 2) (.cons (.int 3) (.cons (.int 2) .nil)))))))) .nil)))) (.seq (.asg 3 (.call 24 (.cons (.var 1) (.cons (.var 2) .nil)))) (.seq (.asg 4 (.call 32 (.cons (.var 2) (.cons (.var 3) .nil)))) (.seq (.asg 5 (.call 34 (.cons (.var 2) (.cons (.var 3) (.cons (.var 4) .nil))))) (.seq (.ifs (.not (.call 22 (.cons (.call 11 (.cons (.var 2) (.cons (.var 3) .nil))) (.cons (.var 5) .nil)))) (.seq (.ret (.bl false)) .skip) .skip) (.seq (.asg 6 (.call 24 (.cons (.var 1) (.cons (.var 2) .nil)))) (.seq (.asg 6 (.ite (.cmp .eq (.call 18 (.cons (.var 1) (.cons (.int 2) .nil))) (.int 1)) (.tup (.cons (.ix (.var 3) (.int 0)) (.cons (.ix (.var 6) (.int 1)) .nil))) (.tup (.cons (.ix (.var 6) (.int 0)) (.cons (.ix (.var 3) (.int 1)) .nil))))) (.seq (.asg 7 (.call 34 (.cons (.var 2) (.cons (.var 6) (.cons (.call 32 (.cons (.var 2) (.cons (.var 6) .nil))) .nil))))) (.seq (.ifs (.not (.call 22 (.cons (.call 11 (.cons (.var 2) (.cons (.var 6) .nil))) (.cons (.var 7) .nil)))) (.seq (.ret (.bl false)) .skip) .skip) (.seq (.asg 8 (.call 38 (.cons (.var 1) (.cons (.var 2) (.cons (.ix (.var 3) (.int 0)) .nil))))) (.seq (.asg 9 (.bin .add (.call 39 (.cons (.var 1) (.cons (.var 2) (.cons (.var 3) (.cons (.var 4) .nil))))) (.lst (.cons (.var 7) (.cons (.ite (.cmp .eq (.call 18 (.cons (.var 1) (.cons (.int 2) .nil))) (.int 1)) (.mth .popAt (.var 8) (.cons (.int 0) .nil)) (.var 5)) .nil))))) (.seq (.for_ (.one 10) (.iSeq (.bin .add (.var 9) (.lst (.cons (.call 20 (.cons (.var 1) (.cons (.var 8) .nil))) (.cons (.call 20 (.cons (.var 1) (.cons (.var 8) .nil))) (.cons (.ite (.cmp .eq (.ix (.var 5) (.int 0)) (.str "unsafe")) (.var 5) (.var 7)) .nil)))))) (.seq (.ifs (.not (.call 22 (.cons (.call 15 (.cons (.var 2) (.cons (.var 3) (.cons (.var 10) .nil)))) (.cons (.call 36 (.cons (.var 2) (.cons (.var 3) (.cons (.var 10) .nil)))) .nil)))) (.seq (.ret (.bl false)) .skip) .skip) .skip)) (.seq (.for_ (.one 11) (.iSeq (.call 40 (.cons (.var 1) (.cons (.var 2) (.cons (.ix (.var 3) (.int 0)) (.cons (.ite (.cmp .eq (.ix (.var 5) (.int 0)) (.str "unsafe")) (.ix (.var 5) (.int 1)) (.tup .nil)) .nil)))))) (.seq (.ifs (.not (.call 22 (.cons (.call 15 (.cons (.var 2) (.cons (.var 3) (.cons (.var 11) .nil)))) (.cons (.bl false) .nil)))) (.seq (.ret (.bl false)) .skip) .skip) .skip)) (.seq (.ifs (.cmp .eq (.call 18 (.cons (.var 1) (.cons (.int 4) .nil))) (.int 1)) (.seq (.asg 12 (.comp [("steps", 13)] (.one 13) (.iSeq (.blt .sorted (.cons (.call 23 .nil) .nil))) (.call 31 (.cons (.var 2) (.cons (.tup (.cons (.var 13) (.cons (.ix (.var 3) (.int 1)) .nil))) .nil))) (.var 13))) (.seq (.ifs (.not (.call 22 (.cons (.call 16 (.cons (.var 2) (.cons (.ix (.var 3) (.int 1)) .nil))) (.cons (.blt .tuple (.cons (.var 12) .nil)) .nil)))) (.seq (.ret (.bl false)) .skip) .skip) .skip)) .skip) (.seq (.ret (.call 22 (.cons (.call 11 (.cons (.var 2) (.cons (.var 3) .nil))) (.cons (.var 5) .nil)))) .skip))))))))))))))))
def d41 : Df := { name := "law", ps := ["script"], N := ["script", "d", "kinds", "keeping", "left", "due", "other", "further", "states", "papers", "paper", "thing", "found", "steps"], b := b41 }
def T : List Df := [d0, d1, d2, d3, d4, d5, d6, d7, d8, d9, d10, d11, d12, d13, d14, d15, d16, d17, d18, d19, d20, d21, d22, d23, d24, d25, d26, d27, d28, d29, d30, d31, d32, d33, d34, d35, d36, d37, d38, d39, d40, d41]
def G : Pg := ⟨T, [], [("TORN", -2), ("EMPTY", -3)], [], [("START", [(-3), (-3)])], [("ORDERS", (.dtp [(.dtp [(.str "drop"), (.str "files"), (.str "paper")]), (.dtp [(.str "drop"), (.str "paper"), (.str "files")]), (.dtp [(.str "files"), (.str "drop"), (.str "paper")]), (.dtp [(.str "files"), (.str "paper")]), (.dtp [(.str "files"), (.str "paper"), (.str "drop")]), (.dtp [(.str "paper"), (.str "drop"), (.str "files")]), (.dtp [(.str "paper"), (.str "files")]), (.dtp [(.str "paper"), (.str "files"), (.str "drop")])]))]⟩
def top (i : Nat) : Stmt := PySem.Challenge.pw_holdstill_k80_whole_cut_tables.main.body.getD i (.Pass ⟨0, 0, 0, 0⟩)
def sts : List Stmt := [(top 1), (top 2), (top 4), (top 8), (top 9), (top 10), (top 11), (top 12), (top 13), (top 14), (top 15), (top 19), (top 20), (top 21), (top 22), (top 23), (top 24), (top 26), (top 27), (top 28), (top 29), (top 30), (top 31), (top 32), (top 33), (top 34), (top 35), (top 36), (top 37), (top 38), (top 39), (top 40), (top 41), (top 42), (top 43), (top 44), (top 45), (top 46), (top 47), (top 48), (top 49), (top 50)]
theorem ck0 : (nameOf (top 1) = d0.name) ∧ ckF G d0 (top 1) = true := by decide +kernel
theorem bd0 : BindP d0.name d0.qual (top 1) d0.ps := fun _ _ _ _ _ _ us hl => match us, hl with | [_], _ => by kernel_rfl
theorem ck1 : (nameOf (top 2) = d1.name) ∧ ckF G d1 (top 2) = true := by decide +kernel
theorem bd1 : BindP d1.name d1.qual (top 2) d1.ps := fun _ _ _ _ _ _ us hl => match us, hl with | [_, _], _ => by kernel_rfl
theorem ck2 : (nameOf (top 4) = d2.name) ∧ ckF G d2 (top 4) = true := by decide +kernel
theorem bd2 : BindP d2.name d2.qual (top 4) d2.ps := fun _ _ _ _ _ _ us hl => match us, hl with | [_, _], _ => by kernel_rfl
theorem ck3 : (nameOf (top 8) = d3.name) ∧ ckF G d3 (top 8) = true := by decide +kernel
theorem bd3 : BindP d3.name d3.qual (top 8) d3.ps := fun _ _ _ _ _ _ us hl => match us, hl with | [_, _], _ => by kernel_rfl
theorem ck4 : (nameOf (top 9) = d4.name) ∧ ckF G d4 (top 9) = true := by decide +kernel
theorem bd4 : BindP d4.name d4.qual (top 9) d4.ps := fun _ _ _ _ _ _ us hl => match us, hl with | [_, _, _], _ => by kernel_rfl
theorem ck5 : (nameOf (top 10) = d5.name) ∧ ckF G d5 (top 10) = true := by decide +kernel
theorem bd5 : BindP d5.name d5.qual (top 10) d5.ps := fun _ _ _ _ _ _ us hl => match us, hl with | [_, _], _ => by kernel_rfl
theorem ck6 : (nameOf (top 11) = d6.name) ∧ ckF G d6 (top 11) = true := by decide +kernel
theorem bd6 : BindP d6.name d6.qual (top 11) d6.ps := fun _ _ _ _ _ _ us hl => match us, hl with | [_], _ => by kernel_rfl
theorem ck7 : (nameOf (top 12) = d7.name) ∧ ckF G d7 (top 12) = true := by decide +kernel
theorem bd7 : BindP d7.name d7.qual (top 12) d7.ps := fun _ _ _ _ _ _ us hl => match us, hl with | [_, _], _ => by kernel_rfl
theorem ck8 : (nameOf (top 13) = d8.name) ∧ ckF G d8 (top 13) = true := by decide +kernel
theorem bd8 : BindP d8.name d8.qual (top 13) d8.ps := fun _ _ _ _ _ _ us hl => match us, hl with | [_, _], _ => by kernel_rfl
theorem ck9 : (nameOf (top 14) = d9.name) ∧ ckF G d9 (top 14) = true := by decide +kernel
theorem bd9 : BindP d9.name d9.qual (top 14) d9.ps := fun _ _ _ _ _ _ us hl => match us, hl with | [_], _ => by kernel_rfl
theorem ck10 : (nameOf (top 15) = d10.name) ∧ ckF G d10 (top 15) = true := by decide +kernel
theorem bd10 : BindP d10.name d10.qual (top 15) d10.ps := fun _ _ _ _ _ _ us hl => match us, hl with | [_, _], _ => by kernel_rfl
theorem ck11 : (nameOf (top 19) = d11.name) ∧ ckF G d11 (top 19) = true := by decide +kernel
theorem bd11 : BindP d11.name d11.qual (top 19) d11.ps := fun _ _ _ _ _ _ us hl => match us, hl with | [_, _], _ => by kernel_rfl
theorem ck12 : (nameOf (top 20) = d12.name) ∧ ckF G d12 (top 20) = true := by decide +kernel
theorem bd12 : BindP d12.name d12.qual (top 20) d12.ps := fun _ _ _ _ _ _ us hl => match us, hl with | [_, _, _], _ => by kernel_rfl
theorem ck13 : (nameOf (top 21) = d13.name) ∧ ckF G d13 (top 21) = true := by decide +kernel
theorem bd13 : BindP d13.name d13.qual (top 21) d13.ps := fun _ _ _ _ _ _ us hl => match us, hl with | [_, _, _], _ => by kernel_rfl
theorem ck14 : (nameOf (top 22) = d14.name) ∧ ckF G d14 (top 22) = true := by decide +kernel
theorem bd14 : BindP d14.name d14.qual (top 22) d14.ps := fun _ _ _ _ _ _ us hl => match us, hl with | [_, _, _], _ => by kernel_rfl
theorem ck15 : (nameOf (top 23) = d15.name) ∧ ckF G d15 (top 23) = true := by decide +kernel
theorem bd15 : BindP d15.name d15.qual (top 23) d15.ps := fun _ _ _ _ _ _ us hl => match us, hl with | [_, _, _], _ => by kernel_rfl
theorem ck16 : (nameOf (top 24) = d16.name) ∧ ckF G d16 (top 24) = true := by decide +kernel
theorem bd16 : BindP d16.name d16.qual (top 24) d16.ps := fun _ _ _ _ _ _ us hl => match us, hl with | [_, _], _ => by kernel_rfl
theorem ck17 : (nameOf (top 26) = d17.name) ∧ ckF G d17 (top 26) = true := by decide +kernel
theorem bd17 : BindP d17.name d17.qual (top 26) d17.ps := fun _ _ _ _ _ _ us hl => match us, hl with | [_], _ => by kernel_rfl
theorem ck18 : (nameOf (top 27) = d18.name) ∧ ckF G d18 (top 27) = true := by decide +kernel
theorem bd18 : BindP d18.name d18.qual (top 27) d18.ps := fun _ _ _ _ _ _ us hl => match us, hl with | [_, _], _ => by kernel_rfl
theorem ck19 : (nameOf (top 28) = d19.name) ∧ ckF G d19 (top 28) = true := by decide +kernel
theorem bd19 : BindP d19.name d19.qual (top 28) d19.ps := fun _ _ _ _ _ _ us hl => match us, hl with | [_, _], _ => by kernel_rfl
theorem ck20 : (nameOf (top 29) = d20.name) ∧ ckF G d20 (top 29) = true := by decide +kernel
theorem bd20 : BindP d20.name d20.qual (top 29) d20.ps := fun _ _ _ _ _ _ us hl => match us, hl with | [_, _], _ => by kernel_rfl
theorem ck21 : (nameOf (top 30) = d21.name) ∧ ckF G d21 (top 30) = true := by decide +kernel
theorem bd21 : BindP d21.name d21.qual (top 30) d21.ps := fun _ _ _ _ _ _ us hl => match us, hl with | [_], _ => by kernel_rfl
theorem ck22 : (nameOf (top 31) = d22.name) ∧ ckF G d22 (top 31) = true := by decide +kernel
theorem bd22 : BindP d22.name d22.qual (top 31) d22.ps := fun _ _ _ _ _ _ us hl => match us, hl with | [_, _], _ => by kernel_rfl
theorem ck23 : (nameOf (top 32) = d23.name) ∧ ckF G d23 (top 32) = true := by decide +kernel
theorem bd23 : BindP d23.name d23.qual (top 32) d23.ps := fun _ _ _ _ _ _ us hl => match us, hl with | [], _ => by kernel_rfl
theorem ck24 : (nameOf (top 33) = d24.name) ∧ ckF G d24 (top 33) = true := by decide +kernel
theorem bd24 : BindP d24.name d24.qual (top 33) d24.ps := fun _ _ _ _ _ _ us hl => match us, hl with | [_, _], _ => by kernel_rfl
theorem ck25 : (nameOf (top 34) = d25.name) ∧ ckF G d25 (top 34) = true := by decide +kernel
theorem bd25 : BindP d25.name d25.qual (top 34) d25.ps := fun _ _ _ _ _ _ us hl => match us, hl with | [_, _], _ => by kernel_rfl
theorem ck26 : (nameOf (top 35) = d26.name) ∧ ckF G d26 (top 35) = true := by decide +kernel
theorem bd26 : BindP d26.name d26.qual (top 35) d26.ps := fun _ _ _ _ _ _ us hl => match us, hl with | [_, _], _ => by kernel_rfl
theorem ck27 : (nameOf (top 36) = d27.name) ∧ ckF G d27 (top 36) = true := by decide +kernel
theorem bd27 : BindP d27.name d27.qual (top 36) d27.ps := fun _ _ _ _ _ _ us hl => match us, hl with | [_, _], _ => by kernel_rfl
theorem ck28 : (nameOf (top 37) = d28.name) ∧ ckF G d28 (top 37) = true := by decide +kernel
theorem bd28 : BindP d28.name d28.qual (top 37) d28.ps := fun _ _ _ _ _ _ us hl => match us, hl with | [_, _], _ => by kernel_rfl
theorem ck29 : (nameOf (top 38) = d29.name) ∧ ckF G d29 (top 38) = true := by decide +kernel
theorem bd29 : BindP d29.name d29.qual (top 38) d29.ps := fun _ _ _ _ _ _ us hl => match us, hl with | [_, _], _ => by kernel_rfl
theorem ck30 : (nameOf (top 39) = d30.name) ∧ ckF G d30 (top 39) = true := by decide +kernel
theorem bd30 : BindP d30.name d30.qual (top 39) d30.ps := fun _ _ _ _ _ _ us hl => match us, hl with | [_, _], _ => by kernel_rfl
theorem ck31 : (nameOf (top 40) = d31.name) ∧ ckF G d31 (top 40) = true := by decide +kernel
theorem bd31 : BindP d31.name d31.qual (top 40) d31.ps := fun _ _ _ _ _ _ us hl => match us, hl with | [_, _], _ => by kernel_rfl
theorem ck32 : (nameOf (top 41) = d32.name) ∧ ckF G d32 (top 41) = true := by decide +kernel
theorem bd32 : BindP d32.name d32.qual (top 41) d32.ps := fun _ _ _ _ _ _ us hl => match us, hl with | [_, _], _ => by kernel_rfl
theorem ck33 : (nameOf (top 42) = d33.name) ∧ ckF G d33 (top 42) = true := by decide +kernel
theorem bd33 : BindP d33.name d33.qual (top 42) d33.ps := fun _ _ _ _ _ _ us hl => match us, hl with | [_, _, _, _], _ => by kernel_rfl
theorem ck34 : (nameOf (top 43) = d34.name) ∧ ckF G d34 (top 43) = true := by decide +kernel
theorem bd34 : BindP d34.name d34.qual (top 43) d34.ps := fun _ _ _ _ _ _ us hl => match us, hl with | [_, _, _], _ => by kernel_rfl
theorem ck35 : (nameOf (top 44) = d35.name) ∧ ckF G d35 (top 44) = true := by decide +kernel
theorem bd35 : BindP d35.name d35.qual (top 44) d35.ps := fun _ _ _ _ _ _ us hl => match us, hl with | [_, _], _ => by kernel_rfl
theorem ck36 : (nameOf (top 45) = d36.name) ∧ ckF G d36 (top 45) = true := by decide +kernel
theorem bd36 : BindP d36.name d36.qual (top 45) d36.ps := fun _ _ _ _ _ _ us hl => match us, hl with | [_, _, _], _ => by kernel_rfl
theorem ck37 : (nameOf (top 46) = d37.name) ∧ ckF G d37 (top 46) = true := by decide +kernel
theorem bd37 : BindP d37.name d37.qual (top 46) d37.ps := fun _ _ _ _ _ _ us hl => match us, hl with | [_, _], _ => by kernel_rfl
theorem ck38 : (nameOf (top 47) = d38.name) ∧ ckF G d38 (top 47) = true := by decide +kernel
theorem bd38 : BindP d38.name d38.qual (top 47) d38.ps := fun _ _ _ _ _ _ us hl => match us, hl with | [_, _, _], _ => by kernel_rfl
theorem ck39 : (nameOf (top 48) = d39.name) ∧ ckF G d39 (top 48) = true := by decide +kernel
theorem bd39 : BindP d39.name d39.qual (top 48) d39.ps := fun _ _ _ _ _ _ us hl => match us, hl with | [_, _, _, _], _ => by kernel_rfl
theorem ck40 : (nameOf (top 49) = d40.name) ∧ ckF G d40 (top 49) = true := by decide +kernel
theorem bd40 : BindP d40.name d40.qual (top 49) d40.ps := fun _ _ _ _ _ _ us hl => match us, hl with | [_, _, _, _], _ => by kernel_rfl
theorem ck41 : (nameOf (top 50) = d41.name) ∧ ckF G d41 (top 50) = true := by decide +kernel
theorem bd41 : BindP d41.name d41.qual (top 50) d41.ps := fun _ _ _ _ _ _ us hl => match us, hl with | [_], _ => by kernel_rfl
theorem ck : ckT G sts = true := by
  unfold ckT
  rw [Bool.and_eq_true]
  refine ⟨by decide +kernel, ?_⟩
  show (List.zip [d0, d1, d2, d3, d4, d5, d6, d7, d8, d9, d10, d11, d12, d13, d14, d15, d16, d17, d18, d19, d20, d21, d22, d23, d24, d25, d26, d27, d28, d29, d30, d31, d32, d33, d34, d35, d36, d37, d38, d39, d40, d41] [(top 1), (top 2), (top 4), (top 8), (top 9), (top 10), (top 11), (top 12), (top 13), (top 14), (top 15), (top 19), (top 20), (top 21), (top 22), (top 23), (top 24), (top 26), (top 27), (top 28), (top 29), (top 30), (top 31), (top 32), (top 33), (top 34), (top 35), (top 36), (top 37), (top 38), (top 39), (top 40), (top 41), (top 42), (top 43), (top 44), (top 45), (top 46), (top 47), (top 48), (top 49), (top 50)]).all _ = true
  simp only [List.zip_cons_cons, List.zip_nil_right, List.all_cons, List.all_nil, Bool.and_true, Bool.and_eq_true, decide_eq_true_eq]
  exact ⟨⟨ck0.1, ck0.2⟩, ⟨ck1.1, ck1.2⟩, ⟨ck2.1, ck2.2⟩, ⟨ck3.1, ck3.2⟩, ⟨ck4.1, ck4.2⟩, ⟨ck5.1, ck5.2⟩, ⟨ck6.1, ck6.2⟩, ⟨ck7.1, ck7.2⟩, ⟨ck8.1, ck8.2⟩, ⟨ck9.1, ck9.2⟩, ⟨ck10.1, ck10.2⟩, ⟨ck11.1, ck11.2⟩, ⟨ck12.1, ck12.2⟩, ⟨ck13.1, ck13.2⟩, ⟨ck14.1, ck14.2⟩, ⟨ck15.1, ck15.2⟩, ⟨ck16.1, ck16.2⟩, ⟨ck17.1, ck17.2⟩, ⟨ck18.1, ck18.2⟩, ⟨ck19.1, ck19.2⟩, ⟨ck20.1, ck20.2⟩, ⟨ck21.1, ck21.2⟩, ⟨ck22.1, ck22.2⟩, ⟨ck23.1, ck23.2⟩, ⟨ck24.1, ck24.2⟩, ⟨ck25.1, ck25.2⟩, ⟨ck26.1, ck26.2⟩, ⟨ck27.1, ck27.2⟩, ⟨ck28.1, ck28.2⟩, ⟨ck29.1, ck29.2⟩, ⟨ck30.1, ck30.2⟩, ⟨ck31.1, ck31.2⟩, ⟨ck32.1, ck32.2⟩, ⟨ck33.1, ck33.2⟩, ⟨ck34.1, ck34.2⟩, ⟨ck35.1, ck35.2⟩, ⟨ck36.1, ck36.2⟩, ⟨ck37.1, ck37.2⟩, ⟨ck38.1, ck38.2⟩, ⟨ck39.1, ck39.2⟩, ⟨ck40.1, ck40.2⟩, ⟨ck41.1, ck41.2⟩⟩
theorem bd : ∀ (i : Nat) (d : Df) (st : Stmt), G.T[i]? = some d → sts[i]? = some st → BindP d.name d.qual st d.ps := bd_of (by
  show AllBd (List.zip [d0, d1, d2, d3, d4, d5, d6, d7, d8, d9, d10, d11, d12, d13, d14, d15, d16, d17, d18, d19, d20, d21, d22, d23, d24, d25, d26, d27, d28, d29, d30, d31, d32, d33, d34, d35, d36, d37, d38, d39, d40, d41] [(top 1), (top 2), (top 4), (top 8), (top 9), (top 10), (top 11), (top 12), (top 13), (top 14), (top 15), (top 19), (top 20), (top 21), (top 22), (top 23), (top 24), (top 26), (top 27), (top 28), (top 29), (top 30), (top 31), (top 32), (top 33), (top 34), (top 35), (top 36), (top 37), (top 38), (top 39), (top 40), (top 41), (top 42), (top 43), (top 44), (top 45), (top 46), (top 47), (top 48), (top 49), (top 50)])
  exact ⟨bd0, bd1, bd2, bd3, bd4, bd5, bd6, bd7, bd8, bd9, bd10, bd11, bd12, bd13, bd14, bd15, bd16, bd17, bd18, bd19, bd20, bd21, bd22, bd23, bd24, bd25, bd26, bd27, bd28, bd29, bd30, bd31, bd32, bd33, bd34, bd35, bd36, bd37, bd38, bd39, bd40, bd41, trivial⟩)
theorem cs0 {k : Nat} {us : List U} {M : Hm} {Q : QU} (hl : us.length = 1) (h : wS (Cs T k) b0 ⟨fun _ M1 => ∃ M2, Sub M2 M1 ∧ Q .non M2, fun u M1 => ∃ M2, Sub M2 M1 ∧ Q u M2, fun _ _ => False, fun _ _ => False⟩ (startU 1 us) M) : Cs T (k + 1) 0 us M Q := ⟨d0, rfl, hl, h⟩
theorem cs1 {k : Nat} {us : List U} {M : Hm} {Q : QU} (hl : us.length = 2) (h : wS (Cs T k) b1 ⟨fun _ M1 => ∃ M2, Sub M2 M1 ∧ Q .non M2, fun u M1 => ∃ M2, Sub M2 M1 ∧ Q u M2, fun _ _ => False, fun _ _ => False⟩ (startU 2 us) M) : Cs T (k + 1) 1 us M Q := ⟨d1, rfl, hl, h⟩
theorem cs2 {k : Nat} {us : List U} {M : Hm} {Q : QU} (hl : us.length = 2) (h : wS (Cs T k) b2 ⟨fun _ M1 => ∃ M2, Sub M2 M1 ∧ Q .non M2, fun u M1 => ∃ M2, Sub M2 M1 ∧ Q u M2, fun _ _ => False, fun _ _ => False⟩ (startU 2 us) M) : Cs T (k + 1) 2 us M Q := ⟨d2, rfl, hl, h⟩
theorem cs3 {k : Nat} {us : List U} {M : Hm} {Q : QU} (hl : us.length = 2) (h : wS (Cs T k) b3 ⟨fun _ M1 => ∃ M2, Sub M2 M1 ∧ Q .non M2, fun u M1 => ∃ M2, Sub M2 M1 ∧ Q u M2, fun _ _ => False, fun _ _ => False⟩ (startU 3 us) M) : Cs T (k + 1) 3 us M Q := ⟨d3, rfl, hl, h⟩
theorem cs4 {k : Nat} {us : List U} {M : Hm} {Q : QU} (hl : us.length = 3) (h : wS (Cs T k) b4 ⟨fun _ M1 => ∃ M2, Sub M2 M1 ∧ Q .non M2, fun u M1 => ∃ M2, Sub M2 M1 ∧ Q u M2, fun _ _ => False, fun _ _ => False⟩ (startU 11 us) M) : Cs T (k + 1) 4 us M Q := ⟨d4, rfl, hl, h⟩
theorem cs5 {k : Nat} {us : List U} {M : Hm} {Q : QU} (hl : us.length = 2) (h : wS (Cs T k) b5 ⟨fun _ M1 => ∃ M2, Sub M2 M1 ∧ Q .non M2, fun u M1 => ∃ M2, Sub M2 M1 ∧ Q u M2, fun _ _ => False, fun _ _ => False⟩ (startU 4 us) M) : Cs T (k + 1) 5 us M Q := ⟨d5, rfl, hl, h⟩
theorem cs6 {k : Nat} {us : List U} {M : Hm} {Q : QU} (hl : us.length = 1) (h : wS (Cs T k) b6 ⟨fun _ M1 => ∃ M2, Sub M2 M1 ∧ Q .non M2, fun u M1 => ∃ M2, Sub M2 M1 ∧ Q u M2, fun _ _ => False, fun _ _ => False⟩ (startU 3 us) M) : Cs T (k + 1) 6 us M Q := ⟨d6, rfl, hl, h⟩
theorem cs7 {k : Nat} {us : List U} {M : Hm} {Q : QU} (hl : us.length = 2) (h : wS (Cs T k) b7 ⟨fun _ M1 => ∃ M2, Sub M2 M1 ∧ Q .non M2, fun u M1 => ∃ M2, Sub M2 M1 ∧ Q u M2, fun _ _ => False, fun _ _ => False⟩ (startU 5 us) M) : Cs T (k + 1) 7 us M Q := ⟨d7, rfl, hl, h⟩
theorem cs8 {k : Nat} {us : List U} {M : Hm} {Q : QU} (hl : us.length = 2) (h : wS (Cs T k) b8 ⟨fun _ M1 => ∃ M2, Sub M2 M1 ∧ Q .non M2, fun u M1 => ∃ M2, Sub M2 M1 ∧ Q u M2, fun _ _ => False, fun _ _ => False⟩ (startU 4 us) M) : Cs T (k + 1) 8 us M Q := ⟨d8, rfl, hl, h⟩
theorem cs9 {k : Nat} {us : List U} {M : Hm} {Q : QU} (hl : us.length = 1) (h : wS (Cs T k) b9 ⟨fun _ M1 => ∃ M2, Sub M2 M1 ∧ Q .non M2, fun u M1 => ∃ M2, Sub M2 M1 ∧ Q u M2, fun _ _ => False, fun _ _ => False⟩ (startU 1 us) M) : Cs T (k + 1) 9 us M Q := ⟨d9, rfl, hl, h⟩
theorem cs10 {k : Nat} {us : List U} {M : Hm} {Q : QU} (hl : us.length = 2) (h : wS (Cs T k) b10 ⟨fun _ M1 => ∃ M2, Sub M2 M1 ∧ Q .non M2, fun u M1 => ∃ M2, Sub M2 M1 ∧ Q u M2, fun _ _ => False, fun _ _ => False⟩ (startU 2 us) M) : Cs T (k + 1) 10 us M Q := ⟨d10, rfl, hl, h⟩
theorem cs11 {k : Nat} {us : List U} {M : Hm} {Q : QU} (hl : us.length = 2) (h : wS (Cs T k) b11 ⟨fun _ M1 => ∃ M2, Sub M2 M1 ∧ Q .non M2, fun u M1 => ∃ M2, Sub M2 M1 ∧ Q u M2, fun _ _ => False, fun _ _ => False⟩ (startU 11 us) M) : Cs T (k + 1) 11 us M Q := ⟨d11, rfl, hl, h⟩
theorem cs12 {k : Nat} {us : List U} {M : Hm} {Q : QU} (hl : us.length = 3) (h : wS (Cs T k) b12 ⟨fun _ M1 => ∃ M2, Sub M2 M1 ∧ Q .non M2, fun u M1 => ∃ M2, Sub M2 M1 ∧ Q u M2, fun _ _ => False, fun _ _ => False⟩ (startU 7 us) M) : Cs T (k + 1) 12 us M Q := ⟨d12, rfl, hl, h⟩
theorem cs13 {k : Nat} {us : List U} {M : Hm} {Q : QU} (hl : us.length = 3) (h : wS (Cs T k) b13 ⟨fun _ M1 => ∃ M2, Sub M2 M1 ∧ Q .non M2, fun u M1 => ∃ M2, Sub M2 M1 ∧ Q u M2, fun _ _ => False, fun _ _ => False⟩ (startU 6 us) M) : Cs T (k + 1) 13 us M Q := ⟨d13, rfl, hl, h⟩
theorem cs14 {k : Nat} {us : List U} {M : Hm} {Q : QU} (hl : us.length = 3) (h : wS (Cs T k) b14 ⟨fun _ M1 => ∃ M2, Sub M2 M1 ∧ Q .non M2, fun u M1 => ∃ M2, Sub M2 M1 ∧ Q u M2, fun _ _ => False, fun _ _ => False⟩ (startU 7 us) M) : Cs T (k + 1) 14 us M Q := ⟨d14, rfl, hl, h⟩
theorem cs15 {k : Nat} {us : List U} {M : Hm} {Q : QU} (hl : us.length = 3) (h : wS (Cs T k) b15 ⟨fun _ M1 => ∃ M2, Sub M2 M1 ∧ Q .non M2, fun u M1 => ∃ M2, Sub M2 M1 ∧ Q u M2, fun _ _ => False, fun _ _ => False⟩ (startU 3 us) M) : Cs T (k + 1) 15 us M Q := ⟨d15, rfl, hl, h⟩
theorem cs16 {k : Nat} {us : List U} {M : Hm} {Q : QU} (hl : us.length = 2) (h : wS (Cs T k) b16 ⟨fun _ M1 => ∃ M2, Sub M2 M1 ∧ Q .non M2, fun u M1 => ∃ M2, Sub M2 M1 ∧ Q u M2, fun _ _ => False, fun _ _ => False⟩ (startU 3 us) M) : Cs T (k + 1) 16 us M Q := ⟨d16, rfl, hl, h⟩
theorem cs17 {k : Nat} {us : List U} {M : Hm} {Q : QU} (hl : us.length = 1) (h : wS (Cs T k) b17 ⟨fun _ M1 => ∃ M2, Sub M2 M1 ∧ Q .non M2, fun u M1 => ∃ M2, Sub M2 M1 ∧ Q u M2, fun _ _ => False, fun _ _ => False⟩ (startU 2 us) M) : Cs T (k + 1) 17 us M Q := ⟨d17, rfl, hl, h⟩
theorem cs18 {k : Nat} {us : List U} {M : Hm} {Q : QU} (hl : us.length = 2) (h : wS (Cs T k) b18 ⟨fun _ M1 => ∃ M2, Sub M2 M1 ∧ Q .non M2, fun u M1 => ∃ M2, Sub M2 M1 ∧ Q u M2, fun _ _ => False, fun _ _ => False⟩ (startU 5 us) M) : Cs T (k + 1) 18 us M Q := ⟨d18, rfl, hl, h⟩
theorem cs19 {k : Nat} {us : List U} {M : Hm} {Q : QU} (hl : us.length = 2) (h : wS (Cs T k) b19 ⟨fun _ M1 => ∃ M2, Sub M2 M1 ∧ Q .non M2, fun u M1 => ∃ M2, Sub M2 M1 ∧ Q u M2, fun _ _ => False, fun _ _ => False⟩ (startU 2 us) M) : Cs T (k + 1) 19 us M Q := ⟨d19, rfl, hl, h⟩
theorem cs20 {k : Nat} {us : List U} {M : Hm} {Q : QU} (hl : us.length = 2) (h : wS (Cs T k) b20 ⟨fun _ M1 => ∃ M2, Sub M2 M1 ∧ Q .non M2, fun u M1 => ∃ M2, Sub M2 M1 ∧ Q u M2, fun _ _ => False, fun _ _ => False⟩ (startU 2 us) M) : Cs T (k + 1) 20 us M Q := ⟨d20, rfl, hl, h⟩
theorem cs21 {k : Nat} {us : List U} {M : Hm} {Q : QU} (hl : us.length = 1) (h : wS (Cs T k) b21 ⟨fun _ M1 => ∃ M2, Sub M2 M1 ∧ Q .non M2, fun u M1 => ∃ M2, Sub M2 M1 ∧ Q u M2, fun _ _ => False, fun _ _ => False⟩ (startU 1 us) M) : Cs T (k + 1) 21 us M Q := ⟨d21, rfl, hl, h⟩
theorem cs22 {k : Nat} {us : List U} {M : Hm} {Q : QU} (hl : us.length = 2) (h : wS (Cs T k) b22 ⟨fun _ M1 => ∃ M2, Sub M2 M1 ∧ Q .non M2, fun u M1 => ∃ M2, Sub M2 M1 ∧ Q u M2, fun _ _ => False, fun _ _ => False⟩ (startU 3 us) M) : Cs T (k + 1) 22 us M Q := ⟨d22, rfl, hl, h⟩
theorem cs23 {k : Nat} {us : List U} {M : Hm} {Q : QU} (hl : us.length = 0) (h : wS (Cs T k) b23 ⟨fun _ M1 => ∃ M2, Sub M2 M1 ∧ Q .non M2, fun u M1 => ∃ M2, Sub M2 M1 ∧ Q u M2, fun _ _ => False, fun _ _ => False⟩ (startU 0 us) M) : Cs T (k + 1) 23 us M Q := ⟨d23, rfl, hl, h⟩
theorem cs24 {k : Nat} {us : List U} {M : Hm} {Q : QU} (hl : us.length = 2) (h : wS (Cs T k) b24 ⟨fun _ M1 => ∃ M2, Sub M2 M1 ∧ Q .non M2, fun u M1 => ∃ M2, Sub M2 M1 ∧ Q u M2, fun _ _ => False, fun _ _ => False⟩ (startU 6 us) M) : Cs T (k + 1) 24 us M Q := ⟨d24, rfl, hl, h⟩
theorem cs25 {k : Nat} {us : List U} {M : Hm} {Q : QU} (hl : us.length = 2) (h : wS (Cs T k) b25 ⟨fun _ M1 => ∃ M2, Sub M2 M1 ∧ Q .non M2, fun u M1 => ∃ M2, Sub M2 M1 ∧ Q u M2, fun _ _ => False, fun _ _ => False⟩ (startU 5 us) M) : Cs T (k + 1) 25 us M Q := ⟨d25, rfl, hl, h⟩
theorem cs26 {k : Nat} {us : List U} {M : Hm} {Q : QU} (hl : us.length = 2) (h : wS (Cs T k) b26 ⟨fun _ M1 => ∃ M2, Sub M2 M1 ∧ Q .non M2, fun u M1 => ∃ M2, Sub M2 M1 ∧ Q u M2, fun _ _ => False, fun _ _ => False⟩ (startU 7 us) M) : Cs T (k + 1) 26 us M Q := ⟨d26, rfl, hl, h⟩
theorem cs27 {k : Nat} {us : List U} {M : Hm} {Q : QU} (hl : us.length = 2) (h : wS (Cs T k) b27 ⟨fun _ M1 => ∃ M2, Sub M2 M1 ∧ Q .non M2, fun u M1 => ∃ M2, Sub M2 M1 ∧ Q u M2, fun _ _ => False, fun _ _ => False⟩ (startU 4 us) M) : Cs T (k + 1) 27 us M Q := ⟨d27, rfl, hl, h⟩
theorem cs28 {k : Nat} {us : List U} {M : Hm} {Q : QU} (hl : us.length = 2) (h : wS (Cs T k) b28 ⟨fun _ M1 => ∃ M2, Sub M2 M1 ∧ Q .non M2, fun u M1 => ∃ M2, Sub M2 M1 ∧ Q u M2, fun _ _ => False, fun _ _ => False⟩ (startU 4 us) M) : Cs T (k + 1) 28 us M Q := ⟨d28, rfl, hl, h⟩
theorem cs29 {k : Nat} {us : List U} {M : Hm} {Q : QU} (hl : us.length = 2) (h : wS (Cs T k) b29 ⟨fun _ M1 => ∃ M2, Sub M2 M1 ∧ Q .non M2, fun u M1 => ∃ M2, Sub M2 M1 ∧ Q u M2, fun _ _ => False, fun _ _ => False⟩ (startU 8 us) M) : Cs T (k + 1) 29 us M Q := ⟨d29, rfl, hl, h⟩
theorem cs30 {k : Nat} {us : List U} {M : Hm} {Q : QU} (hl : us.length = 2) (h : wS (Cs T k) b30 ⟨fun _ M1 => ∃ M2, Sub M2 M1 ∧ Q .non M2, fun u M1 => ∃ M2, Sub M2 M1 ∧ Q u M2, fun _ _ => False, fun _ _ => False⟩ (startU 5 us) M) : Cs T (k + 1) 30 us M Q := ⟨d30, rfl, hl, h⟩
theorem cs31 {k : Nat} {us : List U} {M : Hm} {Q : QU} (hl : us.length = 2) (h : wS (Cs T k) b31 ⟨fun _ M1 => ∃ M2, Sub M2 M1 ∧ Q .non M2, fun u M1 => ∃ M2, Sub M2 M1 ∧ Q u M2, fun _ _ => False, fun _ _ => False⟩ (startU 3 us) M) : Cs T (k + 1) 31 us M Q := ⟨d31, rfl, hl, h⟩
theorem cs32 {k : Nat} {us : List U} {M : Hm} {Q : QU} (hl : us.length = 2) (h : wS (Cs T k) b32 ⟨fun _ M1 => ∃ M2, Sub M2 M1 ∧ Q .non M2, fun u M1 => ∃ M2, Sub M2 M1 ∧ Q u M2, fun _ _ => False, fun _ _ => False⟩ (startU 9 us) M) : Cs T (k + 1) 32 us M Q := ⟨d32, rfl, hl, h⟩
theorem cs33 {k : Nat} {us : List U} {M : Hm} {Q : QU} (hl : us.length = 4) (h : wS (Cs T k) b33 ⟨fun _ M1 => ∃ M2, Sub M2 M1 ∧ Q .non M2, fun u M1 => ∃ M2, Sub M2 M1 ∧ Q u M2, fun _ _ => False, fun _ _ => False⟩ (startU 10 us) M) : Cs T (k + 1) 33 us M Q := ⟨d33, rfl, hl, h⟩
theorem cs34 {k : Nat} {us : List U} {M : Hm} {Q : QU} (hl : us.length = 3) (h : wS (Cs T k) b34 ⟨fun _ M1 => ∃ M2, Sub M2 M1 ∧ Q .non M2, fun u M1 => ∃ M2, Sub M2 M1 ∧ Q u M2, fun _ _ => False, fun _ _ => False⟩ (startU 3 us) M) : Cs T (k + 1) 34 us M Q := ⟨d34, rfl, hl, h⟩
theorem cs35 {k : Nat} {us : List U} {M : Hm} {Q : QU} (hl : us.length = 2) (h : wS (Cs T k) b35 ⟨fun _ M1 => ∃ M2, Sub M2 M1 ∧ Q .non M2, fun u M1 => ∃ M2, Sub M2 M1 ∧ Q u M2, fun _ _ => False, fun _ _ => False⟩ (startU 4 us) M) : Cs T (k + 1) 35 us M Q := ⟨d35, rfl, hl, h⟩
theorem cs36 {k : Nat} {us : List U} {M : Hm} {Q : QU} (hl : us.length = 3) (h : wS (Cs T k) b36 ⟨fun _ M1 => ∃ M2, Sub M2 M1 ∧ Q .non M2, fun u M1 => ∃ M2, Sub M2 M1 ∧ Q u M2, fun _ _ => False, fun _ _ => False⟩ (startU 7 us) M) : Cs T (k + 1) 36 us M Q := ⟨d36, rfl, hl, h⟩
theorem cs37 {k : Nat} {us : List U} {M : Hm} {Q : QU} (hl : us.length = 2) (h : wS (Cs T k) b37 ⟨fun _ M1 => ∃ M2, Sub M2 M1 ∧ Q .non M2, fun u M1 => ∃ M2, Sub M2 M1 ∧ Q u M2, fun _ _ => False, fun _ _ => False⟩ (startU 3 us) M) : Cs T (k + 1) 37 us M Q := ⟨d37, rfl, hl, h⟩
theorem cs38 {k : Nat} {us : List U} {M : Hm} {Q : QU} (hl : us.length = 3) (h : wS (Cs T k) b38 ⟨fun _ M1 => ∃ M2, Sub M2 M1 ∧ Q .non M2, fun u M1 => ∃ M2, Sub M2 M1 ∧ Q u M2, fun _ _ => False, fun _ _ => False⟩ (startU 10 us) M) : Cs T (k + 1) 38 us M Q := ⟨d38, rfl, hl, h⟩
theorem cs39 {k : Nat} {us : List U} {M : Hm} {Q : QU} (hl : us.length = 4) (h : wS (Cs T k) b39 ⟨fun _ M1 => ∃ M2, Sub M2 M1 ∧ Q .non M2, fun u M1 => ∃ M2, Sub M2 M1 ∧ Q u M2, fun _ _ => False, fun _ _ => False⟩ (startU 11 us) M) : Cs T (k + 1) 39 us M Q := ⟨d39, rfl, hl, h⟩
theorem cs40 {k : Nat} {us : List U} {M : Hm} {Q : QU} (hl : us.length = 4) (h : wS (Cs T k) b40 ⟨fun _ M1 => ∃ M2, Sub M2 M1 ∧ Q .non M2, fun u M1 => ∃ M2, Sub M2 M1 ∧ Q u M2, fun _ _ => False, fun _ _ => False⟩ (startU 11 us) M) : Cs T (k + 1) 40 us M Q := ⟨d40, rfl, hl, h⟩
theorem cs41 {k : Nat} {us : List U} {M : Hm} {Q : QU} (hl : us.length = 1) (h : wS (Cs T k) b41 ⟨fun _ M1 => ∃ M2, Sub M2 M1 ∧ Q .non M2, fun u M1 => ∃ M2, Sub M2 M1 ∧ Q u M2, fun _ _ => False, fun _ _ => False⟩ (startU 14 us) M) : Cs T (k + 1) 41 us M Q := ⟨d41, rfl, hl, h⟩
/-! ### the head -/
abbrev R : PySem.W.OpenRow := PySem.W.OpenLaw.row PySem.Challenge.rw_holdstill_k80_whole_cut_tables
abbrev hk : PySem.W.Hook := hookX 4 G sts
def ob (s : PySem.W.SharedT) : AlX := obsXG 4 G (HandSHeadRun.getT s)
theorem ob_eq (s : PySem.W.SharedT) : ob s = hk.obs s.abs := obsXG_eq (HandSHeadRun.getT_eq s)
def loose : List PySem.Str := (["is_int", "is_content", "writes_done", "EMPTY", "TORN", "small_writes", "small_step", "is_wrong", "cuts_of", "small_stores", "is_small_state", "is_cut", "is_small_store", "START", "ORDERS", "cut_table", "are_closed", "shows_safe", "shows_unsafe", "judge_cut", "safe_orders", "_law_begin", "_law_draw", "_law_pick", "_law_pop", "_law_is_int", "_law_same", "_law_orders", "_law_keeping", "_law_smalls", "_law_effect", "_law_after", "_law_wrong", "_law_reached", "_law_effects", "_law_is_safe", "_law_left", "_law_row_from", "_law_due", "_law_walked", "_law_takes", "_law_turned", "_law_states", "_law_rows", "_law_odd"] : List String).map Str.ofString
theorem run (w : World) : HandSHeadRun.RunEq R (PySem.W.view R.prog [50]) hk ob 9000 loose w := by
  intro os
  kernel_rfl
end K80

set_option maxHeartbeats 400000
/-! traces, bodies; what their readers tell -/
namespace Pl
open PySem L2
inductive Ev where | ask (r : Str) | put (f : Str) (c : Int) | see (f : Str) (c : Int)
def encE : Ev → U
  | .ask r => .tup [.str "ask", .str r]
  | .put f c => .tup [.str "put", .str f, .int c]
  | .see f c => .tup [.str "see", .str f, .int c]
def Ev.ok : Ev → Prop
  | .ask r => okS r = true
  | .put f _ => okS f = true
  | .see f _ => okS f = true
end Pl

set_option maxHeartbeats 400000
/-! the laws' names and orders -/
namespace Pl
open PySem L2
theorem ixN_nat {n i : Nat} (h : i < n) : ixN n (i : Int) = some i := by
  unfold ixN
  rw [if_pos (by omega), if_pos (by omega), Int.toNat_natCast]
end Pl

set_option maxHeartbeats 400000
/-! typed rows of entries; equal things; order -/
namespace Pl
open PySem L2
section
variable {α β : Type} [DecidableEq α]
def aget (ks : List (α × β)) (k : α) : Option β := (ks.find? fun p => decide (p.1 = k)).map (·.2)
def adrop (ks : List (α × β)) (k : α) : List (α × β) := ks.filter fun p => !decide (p.1 = k)
def aput (ks : List (α × β)) (k : α) (v : β) : List (α × β) := if (aget ks k).isSome = true then ks.map fun p => if p.1 = k then (p.1, v) else p else ks ++ [(k, v)]
theorem aget_nil (k : α) : aget ([] : List (α × β)) k = none := rfl
theorem aget_cons (p : α × β) (ks : List (α × β)) (k : α) : aget (p :: ks) k = if p.1 = k then some p.2 else aget ks k := by
  unfold aget
  rw [List.find?_cons]
  by_cases h : p.1 = k
  · simp [h]
  · simp [h]
theorem aget_isSome {ks : List (α × β)} {x : α} : (aget ks x).isSome = decide (x ∈ ks.map (·.1)) := by
  unfold aget
  rw [Option.isSome_map, Bool.eq_iff_iff, List.find?_isSome, decide_eq_true_eq, List.mem_map]
  constructor
  · rintro ⟨p, hp, e⟩; exact ⟨p, hp, of_decide_eq_true e⟩
  · rintro ⟨p, hp, e⟩; exact ⟨p, hp, decide_eq_true e⟩
theorem aget_none {ks : List (α × β)} {k : α} (h : aget ks k = none) : ∀ p ∈ ks, p.1 ≠ k := by
  induction ks with
  | nil => intro p hp; cases hp
  | cons q ks ih =>
    rw [aget_cons] at h
    split at h
    · cases h
    · rename_i e
      intro p hp
      rcases List.mem_cons.mp hp with hp | hp
      · rw [hp]; exact e
      · exact ih h p hp
theorem aget_mem {ks : List (α × β)} {k : α} {v : β} (h : aget ks k = some v) : (k, v) ∈ ks := by
  induction ks with
  | nil => cases h
  | cons p ks ih =>
    rw [aget_cons] at h
    split at h
    · rename_i e
      cases h
      rw [← e]
      exact List.mem_cons_self
    · exact List.mem_cons_of_mem _ (ih h)
theorem aget_of_mem {ks : List (α × β)} (nd : (ks.map (·.1)).Nodup) {k : α} {v : β} (h : (k, v) ∈ ks) : aget ks k = some v := by
  induction ks with
  | nil => cases h
  | cons p ks ih =>
    rw [List.map_cons, List.nodup_cons] at nd
    rw [aget_cons]
    rcases List.mem_cons.mp h with e | h
    · rw [← e, if_pos rfl]
    · rw [if_neg (fun e => nd.1 (by rw [e]; exact List.mem_map_of_mem (f := (·.1)) h))]
      exact ih nd.2 h
theorem aput_keys (ks : List (α × β)) (x : α) (v : β) : (aput ks x v).map (·.1) = if x ∈ ks.map (·.1) then ks.map (·.1) else ks.map (·.1) ++ [x] := by
  unfold aput
  rw [aget_isSome]
  by_cases h : x ∈ ks.map (·.1)
  · rw [if_pos (decide_eq_true h), if_pos h, List.map_map]
    refine List.map_congr_left fun p _ => ?_
    show (if p.1 = x then (p.1, v) else p).1 = p.1
    split <;> rfl
  · rw [if_neg (by simpa using h), if_neg h, List.map_append]
    rfl
theorem aput_nodup {ks : List (α × β)} {x : α} {v : β} (h : (ks.map (·.1)).Nodup) : ((aput ks x v).map (·.1)).Nodup := by
  rw [aput_keys]
  split
  · exact h
  · rename_i hn
    rw [List.nodup_append]
    exact ⟨h, by simp, fun a ha b hb e => by rw [List.mem_singleton] at hb; subst hb; subst e; exact hn ha⟩
theorem adrop_nodup {ks : List (α × β)} {x : α} (h : (ks.map (·.1)).Nodup) : ((adrop ks x).map (·.1)).Nodup := h.sublist (List.filter_sublist.map _)
theorem aput_mem {ks : List (α × β)} {x : α} {v : β} {p : α × β} (h : p ∈ aput ks x v) : p ∈ ks ∨ p = (x, v) := by
  unfold aput at h
  split at h
  · rw [List.mem_map] at h
    obtain ⟨q, hq, e⟩ := h
    split at e
    · rename_i hx
      right; rw [← e, hx]
    · left; rw [← e]; exact hq
  · rw [List.mem_append, List.mem_singleton] at h
    exact h
theorem adrop_mem {ks : List (α × β)} {x : α} {p : α × β} (h : p ∈ adrop ks x) : p ∈ ks := (List.mem_filter.mp h).1
theorem aput_new {ks : List (α × β)} {x : α} {v : β} (h : x ∉ ks.map (·.1)) : aput ks x v = ks ++ [(x, v)] := by
  unfold aput
  rw [aget_isSome, if_neg (by simpa using h)]
/-! as rows of entries -/
def amap (f : α → U) (g : β → U) (ks : List (α × β)) : List (U × U) := ks.map fun p => (f p.1, g p.2)
variable {f : α → U} {g : β → U}
theorem dfind_amap (hf : ∀ a b, f a = f b → a = b) (ks : List (α × β)) (k : α) : dfind (amap f g ks) (f k) = (aget ks k).map g := by
  induction ks with
  | nil => rfl
  | cons p ks ih =>
    rw [aget_cons, show amap f g (p :: ks) = (f p.1, g p.2) :: amap f g ks from rfl]
    unfold dfind at ih ⊢
    rw [List.find?_cons]
    by_cases h : p.1 = k
    · rw [if_pos h, show decide (f p.1 = f k) = true from decide_eq_true (by rw [h])]
      rfl
    · rw [if_neg h, show decide (f p.1 = f k) = false from decide_eq_false (fun e => h (hf _ _ e))]
      exact ih
theorem dput_amap (hf : ∀ a b, f a = f b → a = b) (ks : List (α × β)) (k : α) (v : β) : dput (amap f g ks) (f k) (g v) = amap f g (aput ks k v) := by
  unfold dput aput
  rw [dfind_amap hf, Option.isSome_map]
  split
  · unfold amap
    rw [List.map_map, List.map_map]
    refine List.map_congr_left fun p _ => ?_
    show (if f p.1 = f k then (f p.1, g v) else (f p.1, g p.2)) = (f (if p.1 = k then (p.1, v) else p).1, g (if p.1 = k then (p.1, v) else p).2)
    by_cases h : p.1 = k
    · rw [if_pos h, if_pos (by rw [h])]
    · rw [if_neg h, if_neg (fun e => h (hf _ _ e))]
  · unfold amap
    rw [List.map_append]
    rfl
theorem amap_keys (ks : List (α × β)) : (amap f g ks).map (·.1) = (ks.map (·.1)).map f := by
  unfold amap
  rw [List.map_map, List.map_map]
  rfl
theorem amap_len (ks : List (α × β)) : (amap f g ks).length = ks.length := List.length_map _
end
/-! ### order -/
def ltB (a b : U) : Bool := (PyProof.Rows.listOrd PyProof.Rows.itemOrd).blt (W.keyToks (pd a)) (W.keyToks (pd b))
theorem le_def (a b : U) : W.dataLe false pd a b = !ltB b a := rfl
theorem ltB_neg {a b c : U} (h : ltB a c = true) : ltB a b = true ∨ ltB b c = true := (PyProof.Rows.listOrd PyProof.Rows.itemOrd).negTrans _ _ _ h
theorem ltB_trans {a b c : U} (h : ltB a b = true) (g : ltB b c = true) : ltB a c = true := (PyProof.Rows.listOrd PyProof.Rows.itemOrd).trans _ _ _ h g
theorem ltB_irr (a : U) : ltB a a = false := (PyProof.Rows.listOrd PyProof.Rows.itemOrd).irrefl _
theorem ltB_tot {a b : U} (h : ltB a b = false) (g : ltB b a = false) : W.keyToks (pd a) = W.keyToks (pd b) := (PyProof.Rows.listOrd PyProof.Rows.itemOrd).total _ _ h g
theorem le_trans_ (a b c : U) : W.dataLe false pd a b = true → W.dataLe false pd b c = true → W.dataLe false pd a c = true := by
  simp only [le_def, Bool.not_eq_true']
  intro h1 h2
  cases q : ltB c a with
  | false => rfl
  | true =>
    rcases ltB_neg (b := b) q with z | z
    · rw [h2] at z; cases z
    · rw [h1] at z; cases z
theorem le_total_ (a b : U) : (W.dataLe false pd a b || W.dataLe false pd b a) = true := by
  simp only [le_def, Bool.or_eq_true, Bool.not_eq_true']
  cases q : ltB b a with
  | false => exact .inl rfl
  | true =>
    right
    cases q2 : ltB a b with
    | false => rfl
    | true =>
      have := ltB_trans q q2
      rw [ltB_irr] at this
      cases this
/-- sorted things that only stand in another order -/
theorem sort_perm {α : Type} {f : α → U} (hf : ∀ a b, W.keyToks (pd (f a)) = W.keyToks (pd (f b)) → a = b) {l m : List α} (h : l.Perm m) : sortU (l.map f) = sortU (m.map f) := by
  unfold sortU
  refine List.Perm.eq_of_pairwise (le := fun a b => W.dataLe false pd a b = true) (fun a b ha hb h1 h2 => ?_) (List.pairwise_mergeSort le_trans_ le_total_ _) (List.pairwise_mergeSort le_trans_ le_total_ _)
    (((List.mergeSort_perm _ _).trans (h.map f)).trans (List.mergeSort_perm _ _).symm)
  have ha := (List.mergeSort_perm _ _).mem_iff.mp ha
  have hb := (List.mergeSort_perm _ _).mem_iff.mp hb
  rw [List.mem_map] at ha hb
  obtain ⟨x, _, rfl⟩ := ha
  obtain ⟨y, _, rfl⟩ := hb
  simp only [le_def, Bool.not_eq_true'] at h1 h2
  rw [hf x y (ltB_tot h2 h1)]
/-- two texts -/
def encP (p : Str × Str) : U := .tup [.str p.1, .str p.2]
/-! ### what follows, unseen -/
theorem z_cutR {C : CE} {σ : SU} {M : Hm} {nx bk ct : SU → Hm → Prop} {rt : QU} {x : S} (h : ∀ R : SU → Hm → Prop, R = nx → wS C x ⟨R, rt, bk, ct⟩ σ M) : wS C x ⟨nx, rt, bk, ct⟩ σ M := h nx rfl
/-! ### loops over numbers -/
theorem forL_nat {step : U → (SU → Hm → Prop) → SU → Hm → Prop} {g : Hm → Prop} {fin : SU → Hm → Prop} (I : Nat → SU → Hm → Prop) (n : Nat) {σ : SU} {M : Hm} (h0 : I 0 σ M)
    (h1 : ∀ i σ M (k : SU → Hm → Prop), i < n → I i σ M → (∀ σ' M', g M' → I (i + 1) σ' M' → k σ' M') → step (.int (i : Nat)) k σ M)
    (h2 : ∀ σ M, I n σ M → fin σ M) : forL step g fin (rngU 0 (n : Int)) σ M := by
  rw [rngU_nat]
  suffices h : ∀ (m i : Nat) σ M, i + m = n → I i σ M → forL step g fin ((List.range' i m).map fun i => U.int (i : Nat)) σ M by
    rw [List.range_eq_range']
    exact h n 0 σ M (Nat.zero_add n) h0
  intro m
  induction m with
  | zero =>
    intro i σ M e h
    rw [Nat.add_zero] at e
    subst e
    exact h2 σ M h
  | succ m ih =>
    intro i σ M e h
    rw [List.range'_succ, List.map_cons]
    exact h1 i σ M _ (by omega) h fun σ' M' hg hi => ⟨hg, ih (i + 1) σ' M' (by omega) hi⟩
theorem compL_nat {step : U → (Option U → Hm → Prop) → Hm → Prop} {g : Hm → Prop} {fin : List U → Hm → Prop} (I : Nat → List U → Hm → Prop) (n : Nat) {M : Hm} (h0 : I 0 [] M)
    (h1 : ∀ i acc M (k : Option U → Hm → Prop), i < n → I i acc M → (∀ o M', g M' → (o.isSome = true → acc.length < LIM) → I (i + 1) (acc ++ o.toList) M' → k o M') → step (.int (i : Nat)) k M)
    (h2 : ∀ acc M, I n acc M → fin acc M) : compL step g fin (rngU 0 (n : Int)) [] M := by
  rw [rngU_nat]
  suffices h : ∀ (m i : Nat) acc M, i + m = n → I i acc M → compL step g fin ((List.range' i m).map fun i => U.int (i : Nat)) acc M by
    rw [List.range_eq_range']
    exact h n 0 [] M (Nat.zero_add n) h0
  intro m
  induction m with
  | zero =>
    intro i acc M e h
    rw [Nat.add_zero] at e
    subst e
    exact h2 acc M h
  | succ m ih =>
    intro i acc M e h
    rw [List.range'_succ, List.map_cons]
    exact h1 i acc M _ (by omega) h fun o M' hg hl hi => ⟨hg, hl, ih (i + 1) _ M' (by omega) hi⟩
/-! ### the same through and through -/
def okV : Nat → U → Bool
  | _, .non => true
  | _, .bl _ => true
  | _, .int _ => true
  | _, .str _ => true
  | n + 1, .tup l => decide (l.length ≤ LIM) && l.all (okV n)
  | _, _ => false
def SameE (C : CE) (f n : Nat) : Prop := ∀ (M : Hm) (u : U) (Q : QU), okV n u = true → Q (.bl true) M → C f [u, u] M Q
def IsIntC (C : CE) (f : Nat) : Prop := ∀ (M : Hm) (i : Int) (Q : QU), Q (.bl true) M → C f [.int i] M Q
def B_law_is_int : S := (.seq (.ret (.ands (.cons (.isinst (.var 0) "int") (.cons (.not (.isinst (.var 0) "bool")) .nil)))) .skip)
theorem is_int_ok {C : CE} {nx bk ct : SU → Hm → Prop} {rt : QU} {M : Hm} {i : Int} (hq : rt (.bl true) M) : wS C B_law_is_int ⟨nx, rt, bk, ct⟩ (startU 1 [.int i]) M := by
  unfold B_law_is_int
  (repeat decreasing_trivial_pre_omega)
  exact hq
def B_law_same (law_is_int : Nat) (law_same : Nat) : S := (.seq (.ifs (.isinst (.var 1) "tuple") (.seq (.ifs (.ors (.cons (.not (.isinst (.var 0) "tuple")) (.cons (.cmp .ne (.blt .len (.cons (.var 0) .nil)) (.blt .len (.cons (.var 1) .nil))) .nil))) (.seq (.ret (.bl false)) .skip) .skip) (.seq (.for_ (.one 2) (.iRange (.blt .len (.cons (.var 1) .nil))) (.seq (.ifs (.not (.call law_same (.cons (.ix (.var 0) (.var 2)) (.cons (.ix (.var 1) (.var 2)) .nil)))) (.seq (.ret (.bl false)) .skip) .skip) .skip)) (.seq (.ret (.bl true)) .skip))) .skip) (.seq (.ifs (.isN (.var 1)) (.seq (.ret (.isN (.var 0))) .skip) .skip) (.seq (.ifs (.isinst (.var 1) "bool") (.seq (.ret (.ands (.cons (.isinst (.var 0) "bool") (.cons (.cmp .eq (.var 0) (.var 1)) .nil)))) .skip) .skip) (.seq (.ifs (.isinst (.var 1) "int") (.seq (.ret (.ands (.cons (.call law_is_int (.cons (.var 0) .nil)) (.cons (.cmp .eq (.var 0) (.var 1)) .nil)))) .skip) .skip) (.seq (.ret (.ands (.cons (.isinst (.var 0) "str") (.cons (.cmp .eq (.var 0) (.var 1)) .nil)))) .skip)))))
theorem sameE_ok {C : CE} {fi f n : Nat} (hi : IsIntC C fi) (hrec : ∀ i, n = i + 1 → SameE C f i) {nx bk ct : SU → Hm → Prop} {rt : QU} {M : Hm} {u : U} (hd : okV n u = true) (hq : rt (.bl true) M) :
    wS C (B_law_same fi f) ⟨nx, rt, bk, ct⟩ (startU 3 [u, u]) M := by
  unfold B_law_same
  cases u with
  | ref _ => cases n <;> simp [okV] at hd
  | rol _ => cases n <;> simp [okV] at hd
  | dtp _ => cases n <;> simp [okV] at hd
  | non =>
    (repeat decreasing_trivial_pre_omega)
    exact hq
  | bl b =>
    (repeat decreasing_trivial_pre_omega)
    rw [decide_eq_true (p := b = b) rfl]
    exact hq
  | int i =>
    (repeat decreasing_trivial_pre_omega)
    refine hi _ _ _ ?_
    (repeat decreasing_trivial_pre_omega)
    rw [decide_eq_true (p := i = i) rfl]
    exact hq
  | str x =>
    (repeat decreasing_trivial_pre_omega)
    rw [decide_eq_true (p := x = x) rfl]
    exact hq
  | tup l =>
    cases n with
    | zero => simp [okV] at hd
    | succ n =>
      have hr := hrec n rfl
      have hd2 : l.length ≤ LIM ∧ ∀ x ∈ l, okV n x = true := by simpa [okV] using hd
      (repeat decreasing_trivial_pre_omega)
      refine ⟨by omega, by omega, ?_⟩
      refine forL_nat (fun i σ M' => (∃ u2, σ = [some (.tup l), some (.tup l), u2]) ∧ M' = M) l.length ⟨⟨_, rfl⟩, rfl⟩ ?_ ?_
      · intro j σ M' k hj ⟨⟨u2, e1⟩, e2⟩ hk
        subst e1 e2
        (repeat decreasing_trivial_pre_omega)
        refine x_tup (atI_nat hj) ?_
        (repeat decreasing_trivial_pre_omega)
        refine x_tup (atI_nat hj) ?_
        (repeat decreasing_trivial_pre_omega)
        refine hr _ _ _ (hd2.2 _ (List.getElem_mem hj)) ?_
        (repeat decreasing_trivial_pre_omega)
        exact hk _ _ trivial ⟨⟨_, rfl⟩, rfl⟩
      · intro σ M' ⟨⟨u2, e1⟩, e2⟩
        subst e1 e2
        (repeat decreasing_trivial_pre_omega)
        exact hq
end Pl

set_option maxHeartbeats 1000000
/-! disks: writes, cells, what is found -/
namespace Pl
open PySem L2
def B_writes_done : S := (.seq (.ifs (.ors (.cons (.isN (.var 1)) (.cons (.cmp .ge (.ix (.var 1) (.int 0)) (.var 0)) .nil))) (.seq (.ret (.tup (.cons (.var 0) (.cons (.bl false) .nil)))) .skip) .skip) (.seq (.ret (.tup (.cons (.ix (.var 1) (.int 0)) (.cons (.ix (.var 1) (.int 1)) .nil)))) .skip))
/-- a call that tells u and leaves all old things -/
def Ret (C : CE) (f : Nat) (args : List U) (u : U) : Prop := ∀ (M : Hm) (Q : QU), (∀ M', Sub M M' → Q u M') → C f args M Q
/-- all old things but c stay -/
def Fr1 (c : Addr) (M M' : Hm) : Prop := ∀ a, a ≠ c → ∀ o, M a = some o → M' a = some o
theorem Fr1.refl (c : Addr) (M : Hm) : Fr1 c M M := fun _ _ _ h => h
theorem Fr1.trans {c : Addr} {A B D : Hm} (h : Fr1 c A B) (g : Fr1 c B D) : Fr1 c A D := fun a n o e => g a n o (h a n o e)
theorem Sub.fr1 {c : Addr} {A B : Hm} (h : Sub A B) : Fr1 c A B := fun a _ o e => h a o e
theorem Fr1.um {c : Addr} {A B : Hm} {o : MO} (h : Fr1 c A B) : Fr1 c A (um B c o) := fun a n o' e => by rw [um_ne n]; exact h a n o' e
/-- things of two kinds do not share an address -/
theorem ne_kind {M : Hm} {a b : Addr} {x y : MO} (ha : M a = some x) (hb : M b = some y) (h : x ≠ y) : a ≠ b := fun e => by
  subst e
  rw [ha] at hb
  exact h (Option.some.inj hb)
/-! ### papers -/
def evK : Ev → U
  | .put f _ => .tup [.str "put", .str f]
  | .ask r => encE (.ask r)
  | .see f c => encE (.see f c)
def layT (es : List Ev) : List (Str × Int) := es.foldl (fun ks e => match e with | .put f c => aput ks f c | _ => ks) []
theorem layT_snoc (es : List Ev) (e : Ev) : layT (es ++ [e]) = match e with | .put f c => aput (layT es) f c | _ => layT es := by
  unfold layT
  rw [List.foldl_append]
  rfl
theorem layT_nodup (es : List Ev) : ((layT es).map (·.1)).Nodup := by
  induction es using snocs with
  | h0 => exact List.nodup_nil
  | h1 es e ih =>
    rw [layT_snoc]
    cases e with
    | put f c => exact aput_nodup ih
    | _ => exact ih
theorem layT_mem {es : List Ev} {p : Str × Int} (h : p ∈ layT es) : Ev.put p.1 p.2 ∈ es := by
  induction es using snocs with
  | h0 => cases h
  | h1 es e ih =>
    rw [layT_snoc] at h
    cases e with
    | put f c =>
      rcases aput_mem h with h | h
      · exact List.mem_append_left _ (ih h)
      · rw [h]; exact List.mem_append_right _ (List.mem_singleton.mpr rfl)
    | _ => exact List.mem_append_left _ (ih h)
def TrOk (n : Nat) (es : List Ev) : Prop := ∀ f c, Ev.put f c ∈ es → okS f = true ∧ f ≠ "" ∧ 0 ≤ c ∧ c < n
def ClOk (n : Nat) (cls : List Int) : Prop := cls = [] ∨ cls.length = n + 1
def clAt (cls : List Int) (c : Int) : Int := (cls[(c + 1).toNat]?).getD 0
theorem cl_ix {n : Nat} {cls : List Int} {c : Int} (h : ClOk n cls) (hne : cls ≠ []) (h0 : 0 ≤ c) (h1 : c < n) : atI (cls.map U.int) (c + 1) = some (.int (clAt cls c)) := by
  have hl : cls.length = n + 1 := h.resolve_left hne
  have e : c + 1 = (((c + 1).toNat : Nat) : Int) := by omega
  have hlt : (c + 1).toNat < (cls.map U.int).length := by rw [List.length_map]; omega
  rw [e, atI_nat hlt, List.getElem_map]
  unfold clAt
  rw [List.getElem?_eq_getElem (by omega)]
  rfl
def sealT (cls : List Int) (l : List (Str × Int)) : List Int := if cls = [] then [] else l.map fun p => clAt cls p.2
def fsT (es : List Ev) : List Str := (layT es).map (·.1)
/-- the steps are a tuple that has no dict: its index is asked -/
def kpU (st : List Str) (cls : List Int) : U := .tup [.dtp (st.map U.str), .tup (cls.map U.int)]
/-! ### writes -/
inductive Wr where | drop | file (f : Str) (c : Int) | paper
def Wr.nm : Wr → Str
  | .drop => ""
  | .file f _ => f
  | .paper => ""
def wrOf (es : List Ev) (w : Str) : List Wr := if w = "drop" then [.drop] else if w = "paper" then [.paper] else (layT es).map fun p => .file p.1 p.2
def writesT (st : List Str) (es : List Ev) : List Wr := st.flatMap (wrOf es)
abbrev Cut := Option (Nat × Bool)
def cutV : Cut → U
  | none => .non
  | some (a, b) => .tup [.int a, .bl b]
def doneN (m : Nat) : Cut → Nat × Bool
  | none => (m, false)
  | some (a, b) => if m ≤ a then (m, false) else (a, b)
theorem done_ok {C : CE} {nx bk ct : SU → Hm → Prop} {rt : QU} {M : Hm} {m : Nat} {cut : Cut} (hq : rt (.tup [.int (doneN m cut).1, .bl (doneN m cut).2]) M) :
    wS C B_writes_done ⟨nx, rt, bk, ct⟩ (startU 2 [.int m, cutV cut]) M := by
  unfold B_writes_done
  rcases cut with _ | ⟨a, b⟩
  · simp only [cutV]
    (repeat decreasing_trivial_pre_omega)
    exact hq
  · simp only [cutV]
    simp only [doneN] at hq
    (repeat decreasing_trivial_pre_omega)
    by_cases h : m ≤ a
    · rw [if_pos h] at hq
      have h2 : (m : Int) ≤ (a : Int) := by omega
      (repeat decreasing_trivial_pre_omega)
      exact hq
    · rw [if_neg h] at hq
      have h2 : ¬ (m : Int) ≤ (a : Int) := by omega
      (repeat decreasing_trivial_pre_omega)
      exact hq
def DoneC (C : CE) (f : Nat) : Prop := ∀ (M : Hm) (m : Nat) (cut : Cut) (Q : QU), Q (.tup [.int (doneN m cut).1, .bl (doneN m cut).2]) M → C f [.int m, cutV cut] M Q
end Pl

set_option maxHeartbeats 1000000
/-! the disk: its cells -/
namespace Pl
open PySem L2
inductive Cel | torn | file (c : Int) | paper (ev : List U) (fs : List Str) (sel : List Int)
def stC : Cel → U
  | .torn => .str "torn"
  | _ => .str "whole"
def vaC : Cel → U
  | .torn => .non
  | .file c => .int c
  | .paper ev fs sel => .tup [.tup ev, .tup (fs.map U.str), .tup (sel.map U.int)]
def encC (c : Cel) : U := .tup [stC c, vaC c]
abbrev Cells := List ((Str × Str) × Cel)
def cellsM (ks : Cells) : MO := .dct false true (amap encP encC ks)
def CelOk (n : Nat) (cls : List Int) (f : Str) : Cel → Prop
  | .torn => True
  | .file c => f ≠ "" ∧ 0 ≤ c ∧ c < n
  | .paper ev fs sel => f = "" ∧ (∀ g ∈ fs, g ≠ "") ∧ (cls ≠ [] → sel.length = fs.length) ∧ sel.length ≤ LIM ∧ fs.length ≤ LIM ∧ ev.length ≤ LIM ∧ ∀ x ∈ ev, okV 1 x = true
def GoodC (n : Nat) (cls : List Int) (ks : Cells) : Prop := (ks.map (·.1)).Nodup ∧ ∀ p ∈ ks, okS p.1.1 = true ∧ okS p.1.2 = true ∧ CelOk n cls p.1.2 p.2
theorem GoodC.get {n : Nat} {cls : List Int} {ks : Cells} (h : GoodC n cls ks) {k : Str × Str} {c : Cel} (e : aget ks k = some c) : okS k.1 = true ∧ okS k.2 = true ∧ CelOk n cls k.2 c := h.2 _ (aget_mem e)
theorem GoodC.perm {n : Nat} {cls : List Int} {ks ks' : Cells} (h : GoodC n cls ks) (p : ks.Perm ks') : GoodC n cls ks' := ⟨(p.map _).nodup_iff.mp h.1, fun q hq => h.2 q (p.mem_iff.mpr hq)⟩
theorem GoodC.drop {n : Nat} {cls : List Int} {ks : Cells} (h : GoodC n cls ks) (k : Str × Str) : GoodC n cls (adrop ks k) := ⟨adrop_nodup h.1, fun q hq => h.2 q (adrop_mem hq)⟩
theorem GoodC.put {n : Nat} {cls : List Int} {ks : Cells} (h : GoodC n cls ks) {k : Str × Str} {c : Cel} (h1 : okS k.1 = true) (h2 : okS k.2 = true) (h3 : CelOk n cls k.2 c) : GoodC n cls (aput ks k c) := ⟨aput_nodup h.1, fun q hq => by
  rcases aput_mem hq with hq | hq
  · exact h.2 q hq
  · rw [hq]; exact ⟨h1, h2, h3⟩⟩
def celOf (cls : List Int) (es : List Ev) : Wr → Cel
  | .drop => .torn
  | .file _ c => .file c
  | .paper => .paper (es.map evK) (fsT es) (sealT cls (layT es))
def putW (cls : List Int) (es : List Ev) (r : Str) (ks : Cells) (w : Wr) : Cells := match w with
  | .drop => adrop ks (r, "")
  | .file f c => aput ks (r, f) (.file c)
  | .paper => aput ks (r, "") (.paper (es.map evK) (fsT es) (sealT cls (layT es)))
def storeT (cls : List Int) (st : List Str) (es : List Ev) (r : Str) (cut : Cut) (ks : Cells) : Cells :=
  let k1 := ((writesT st es).take (doneN (writesT st es).length cut).1).foldl (putW cls es r) ks
  if (doneN (writesT st es).length cut).2 = true then (match (writesT st es)[(doneN (writesT st es).length cut).1]? with
    | some w => aput k1 (r, w.nm) .torn
    | none => k1) else k1
theorem doneN_le (m : Nat) (cut : Cut) : (doneN m cut).1 ≤ m := by
  rcases cut with _ | ⟨a, b⟩
  · exact Nat.le_refl _
  · unfold doneN
    by_cases h : m ≤ a
    · simp [h]
    · simp [h]; omega
theorem doneN_lt {m : Nat} {cut : Cut} (h : (doneN m cut).2 = true) : (doneN m cut).1 < m := by
  rcases cut with _ | ⟨a, b⟩
  · cases h
  · unfold doneN at h ⊢
    by_cases h2 : m ≤ a
    · simp [h2] at h
    · simp [h2]; omega
theorem wr_mem {st : List Str} {es : List Ev} {w : Wr} (h : w ∈ writesT st es) : w = .drop ∨ w = .paper ∨ ∃ p ∈ layT es, w = .file p.1 p.2 := by
  unfold writesT at h
  rw [List.mem_flatMap] at h
  obtain ⟨x, _, h⟩ := h
  unfold wrOf at h
  split at h
  · left; simpa using h
  · split at h
    · right; left; simpa using h
    · right; right
      rw [List.mem_map] at h
      obtain ⟨p, hp, e⟩ := h
      exact ⟨p, hp, e.symm⟩
/-! ### the object -/
def diskO (n : Int) (kp : U) (c : Addr) : MO := .obj "Disk" [("_kinds", .int n), ("_keeping", kp), ("_cellmap", .ref c)]
/-- a disk at a, its cells at c -/
def DiskAt (M : Hm) (a c : Addr) (n : Int) (kp : U) (ks : Cells) : Prop := M a = some (diskO n kp c) ∧ M c = some (cellsM ks)
end Pl

set_option maxHeartbeats 1000000
/-! the disk: what is found, its twin -/
namespace Pl
open PySem L2
end Pl

set_option maxHeartbeats 1000000
/-! k79: the law's own cells -/
namespace K79
open PySem L2 Pl
def B_law_orders : S := (.seq (.ret (.lst (.cons (.dtup (.cons (.str "drop") (.cons (.str "files") (.cons (.str "paper") .nil)))) (.cons (.dtup (.cons (.str "drop") (.cons (.str "paper") (.cons (.str "files") .nil)))) (.cons (.dtup (.cons (.str "files") (.cons (.str "drop") (.cons (.str "paper") .nil)))) (.cons (.dtup (.cons (.str "files") (.cons (.str "paper") .nil))) (.cons (.dtup (.cons (.str "files") (.cons (.str "paper") (.cons (.str "drop") .nil)))) (.cons (.dtup (.cons (.str "paper") (.cons (.str "drop") (.cons (.str "files") .nil)))) (.cons (.dtup (.cons (.str "paper") (.cons (.str "files") .nil))) (.cons (.dtup (.cons (.str "paper") (.cons (.str "files") (.cons (.str "drop") .nil)))) .nil)))))))))) .skip)
def B_law_keeping (law_draw : Nat) (law_pick : Nat) (law_orders : Nat) : S := (.seq (.asg 2 (.call law_orders .nil)) (.seq (.asg 3 (.call law_pick (.cons (.var 0) (.cons (.bin .add (.var 2) (.bin .mul (.slice (.var 2) .nil (.int 1)) (.int 3))) .nil)))) (.seq (.asg 4 (.call law_draw (.cons (.var 0) (.cons (.int 3) .nil)))) (.seq (.ifs (.cmp .eq (.var 4) (.int 0)) (.seq (.ret (.tup (.cons (.var 3) (.cons (.lrng true .nil (.bin .add (.var 1) (.int 1))) .nil)))) .skip) .skip) (.seq (.ifs (.cmp .eq (.var 4) (.int 1)) (.seq (.ret (.tup (.cons (.var 3) (.cons (.tup .nil) .nil)))) .skip) .skip) (.seq (.ret (.tup (.cons (.var 3) (.cons (.blt .tuple (.cons (.comp [("k", 5)] (.one 5) (.iRange (.bin .add (.var 1) (.int 1))) .nil (.call law_draw (.cons (.var 0) (.cons (.bin .add (.var 1) (.int 1)) .nil)))) .nil)) .nil)))) .skip))))))
def StOk (st : List Str) : Prop := st.length ≤ 3 ∧ ∀ w ∈ st, w = "drop" ∨ w = "files" ∨ w = "paper"
end K79

set_option maxHeartbeats 1000000
/-! k79: the law's own cells, its draws -/
namespace K79
open PySem L2 Pl
theorem doneN_some (m a : Nat) (b : Bool) : doneN m (some (a, b)) = if m ≤ a then (m, false) else (a, b) := rfl
end K79

set_option maxHeartbeats 1000000
/-! k79: draws of traces, cuts, keepings; copies -/
namespace K79
open PySem L2 Pl
def ordersL : List (List Str) := [["drop", "files", "paper"], ["drop", "paper", "files"], ["files", "drop", "paper"], ["files", "paper"], ["files", "paper", "drop"], ["paper", "drop", "files"], ["paper", "files"], ["paper", "files", "drop"]]
def stU (st : List Str) : U := .dtp (st.map U.str)
def OrdC (C : CE) (f : Nat) : Prop := ∀ (M : Hm) (Q : QU), (∀ q, M q = none → Q (.ref q) (um M q (.lst (ordersL.map stU)))) → C f [] M Q
theorem orders_ok {C : CE} {nx bk ct : SU → Hm → Prop} {rt : QU} {M : Hm} (hq : ∀ q, M q = none → rt (.ref q) (um M q (.lst (ordersL.map stU)))) : wS C B_law_orders ⟨nx, rt, bk, ct⟩ (startU 0 []) M := by
  unfold B_law_orders
  (repeat decreasing_trivial_pre_omega)
  intro q hq0
  exact hq q hq0
theorem ord_ok : ∀ st ∈ ordersL, StOk st := by
  unfold StOk
  decide +kernel
theorem law_keeping_ok {C : CE} {fd fp fo : Nat} (hD : DrawC C fd) (hP : PickC C fp) (hO : OrdC C fo) {nx bk ct : SU → Hm → Prop} {rt : QU} {M : Hm} {p : Addr × Addr} {n : Nat} (d : Dr M p) (n2 : n ≤ 4) (hq : ∀ (st : List Str) (cls : List Int) M', st ∈ ordersL → ClOk n cls → Dr M' p → Fr p M M' → rt (kpU st cls) M') :
    wS C (B_law_keeping fd fp fo) ⟨nx, rt, bk, ct⟩ (startU 6 [.ref p.1, .int n]) M := by
  unfold B_law_keeping
  have hl : LIM = 100000 := rfl
  (repeat decreasing_trivial_pre_omega)
  refine hO _ _ fun q hq0 => ?_
  (repeat decreasing_trivial_pre_omega)
  intro q1 hq1
  (repeat decreasing_trivial_pre_omega)
  refine o_rep um_same (by omega) (by omega) (by rw [show ((3 : Int).toNat) = 3 from rfl]; show _ * 3 ≤ _; decide +kernel) fun q2 hq2 => ?_
  refine o_addL (um_old (um_old um_same hq1) hq2) um_same (by decide +kernel) fun q3 hq3 => ?_
  (repeat decreasing_trivial_pre_omega)
  have hq1' := um_none hq1
  have hq2' := um_none (um_none hq2)
  have hq3' := um_none (um_none (um_none hq3))
  refine hP _ p (.ref q3) _ _ ((((d.upd hq0).upd hq1).upd hq2).upd hq3) (.inr ⟨q3, rfl, d.ne hq3', um_same⟩) (by decide +kernel) (by decide +kernel) fun u M4 hu d4 fr4 => ?_
  have hst : ∃ st ∈ ordersL, u = stU st := by
    rcases List.mem_append.mp hu with hu | hu
    · obtain ⟨st, h, e⟩ := List.mem_map.mp hu
      exact ⟨st, h, e.symm⟩
    · rw [List.mem_flatten] at hu
      obtain ⟨l, hl, hu⟩ := hu
      have hl2 := List.eq_of_mem_replicate hl
      subst hl2
      have hu2 : u ∈ ordersL.map stU := by
        have := cutU_take (ordersL.map stU) 1
        rw [show cutU (ordersL.map stU) none (some 1) = (ordersL.map stU).take 1 from this] at hu
        exact List.mem_of_mem_take hu
      obtain ⟨st, h, e⟩ := List.mem_map.mp hu2
      exact ⟨st, h, e.symm⟩
  obtain ⟨st, hs, rfl⟩ := hst
  have so := ord_ok st hs
  (repeat decreasing_trivial_pre_omega)
  refine hD.lt _ p 3 _ d4 (by decide) (by decide) fun r M5 hr d5 fr5 => ?_
  have fr := (Fr.trans (Fr.upd (Fr.upd (Fr.upd (Fr.upd (Fr.refl p M) hq0) hq1') hq2') hq3') fr4).trans fr5
  (repeat decreasing_trivial_pre_omega)
  by_cases h0 : (r : Int) = 0
  · (repeat decreasing_trivial_pre_omega)
    refine ⟨by omega, by omega, ?_⟩
    refine i_ift rfl ?_
    (repeat decreasing_trivial_pre_omega)
    have e : rngU 0 ((n : Int) + 1) = ((List.range (n + 1)).map fun i : Nat => ((i : Nat) : Int)).map U.int := by
      rw [show ((n : Int) + 1) = ((n + 1 : Nat) : Int) by omega, rngU_nat, List.map_map]
      rfl
    rw [e]
    exact hq st _ _ hs (.inr (by rw [List.length_map, List.length_range])) d5 fr
  · (repeat decreasing_trivial_pre_omega)
    by_cases h1 : (r : Int) = 1
    · (repeat decreasing_trivial_pre_omega)
      exact hq st [] _ hs (.inl rfl) d5 fr
    · (repeat decreasing_trivial_pre_omega)
      refine ⟨by omega, by omega, ?_⟩
      rw [show ((n : Int) + 1) = ((n + 1 : Nat) : Int) by omega]
      refine compL_nat (fun i acc M' => Dr M' p ∧ Fr p M M' ∧ ∃ cls : List Int, acc = cls.map U.int ∧ cls.length = i) (n + 1) ⟨d5, fr, [], rfl, rfl⟩ ?_ ?_
      · intro i acc M' k hi ⟨e1, e2, cls, e3, e4⟩ hk
        subst e3
        (repeat decreasing_trivial_pre_omega)
        refine hD.lt _ p (n + 1) _ e1 (by omega) (by omega) fun c M6 hc d6 fr6 => ?_
        exact hk _ _ trivial (fun _ => by rw [List.length_map]; omega) ⟨d6, e2.trans fr6, cls ++ [(c : Int)], by simp, by rw [List.length_append, e4]; rfl⟩
      · intro acc M' ⟨e1, e2, cls, e3, e4⟩
        subst e3
        intro q hq0
        (repeat decreasing_trivial_pre_omega)
        exact hq st cls _ hs (.inr e4) (e1.upd hq0) (e2.upd (by
          cases z : M q with
          | none => rfl
          | some o => rw [e2 q (e1.ne hq0) o z] at hq0; cases hq0))
end K79

set_option maxHeartbeats 1000000
/-! k79: one turn -/
namespace K79
open PySem L2 Pl
structure It where
  a : Addr
  c : Addr
  m : Addr
  n : Nat
  st : List Str
  cls : List Int
  k1 : Cells
  k2 : Cells
def It.kp (i : It) : U := kpU i.st i.cls
def HoldI (B : Nat) (M : Hm) (i : It) : Prop := DiskAt M i.a i.c i.n i.kp i.k1 ∧ M i.m = some (cellsM i.k2) ∧ i.k1.Perm i.k2 ∧ GoodC i.n i.cls i.k1 ∧ i.k1.length ≤ B ∧ ClOk i.n i.cls ∧ StOk i.st ∧ 1 ≤ i.n ∧ i.n ≤ 4
theorem HoldI.mono {B B' : Nat} {M : Hm} {i : It} (h : HoldI B M i) (l : B ≤ B') : HoldI B' M i := ⟨h.1, h.2.1, h.2.2.1, h.2.2.2.1, Nat.le_trans h.2.2.2.2.1 l, h.2.2.2.2.2⟩
theorem HoldI.move {B : Nat} {M M' : Hm} {i : It} (h : HoldI B M i) (e1 : ∀ o, M i.a = some o → M' i.a = some o) (e2 : ∀ o, M i.c = some o → M' i.c = some o) (e3 : ∀ o, M i.m = some o → M' i.m = some o) : HoldI B M' i := ⟨⟨e1 _ h.1.1, e2 _ h.1.2⟩, e3 _ h.2.1, h.2.2⟩
theorem HoldI.sub {B : Nat} {M M' : Hm} {i : It} (h : HoldI B M i) (s : Sub M M') : HoldI B M' i := h.move (fun o e => s _ _ e) (fun o e => s _ _ e) (fun o e => s _ _ e)
theorem okV_tup {n : Nat} {l : List U} (h1 : l.length ≤ LIM) (h2 : ∀ x ∈ l, okV n x = true) : okV (n + 1) (.tup l) = true := by
  have : okV (n + 1) (.tup l) = (decide (l.length ≤ LIM) && l.all (okV n)) := rfl
  rw [this, Bool.and_eq_true, List.all_eq_true]
  exact ⟨decide_eq_true h1, h2⟩
theorem okV_map {α : Type} {n : Nat} {f : α → U} {l : List α} (h1 : l.length ≤ LIM) (h2 : ∀ x ∈ l, okV n (f x) = true) : okV (n + 1) (.tup (l.map f)) = true := okV_tup (by rw [List.length_map]; exact h1) fun x hx => by
  rw [List.mem_map] at hx
  obtain ⟨y, hy, rfl⟩ := hx
  exact h2 y hy
def dicts (l : List (Addr × It)) : List Addr := l.flatMap fun p => [p.2.c, p.2.m]
def OldAt (M : Hm) (p : Addr × It) : Prop := M p.1 = some (.lst [.ref p.2.a, p.2.kp, .ref p.2.m])
def RowAt' (M : Hm) (p : Addr × It) : Prop := M p.1 = some (.lst [.ref p.2.a, p.2.kp, .ref p.2.m, .int p.2.n])
/-- what a turn leaves -/
structure Turned (B : Nat) (p : Addr × Addr) (rr O : Addr) (i : It) (os : List U) (M M' : Hm) (i' : It) (new : List (Addr × It)) : Prop where
  dr : Dr M' p
  old : ∀ x, x ≠ p.1 → x ≠ rr → x ≠ O → x ≠ i.c → x ≠ i.m → ∀ o, M x = some o → M' x = some o
  row : RowAt' M' (rr, i')
  hold : HoldI (B + 60) M' i'
  olds : M' O = some (.lst (os ++ new.map fun q => .ref q.1))
  one : new.length ≤ 1
  news : ∀ q ∈ new, M q.1 = none ∧ OldAt M' q ∧ HoldI B M' q.2
  nd : (dicts ((rr, i') :: new)).Nodup
  fresh : ∀ x ∈ dicts ((rr, i') :: new), x = i.c ∨ x = i.m ∨ M x = none
end K79

set_option maxHeartbeats 1000000
/-! k79: one turn, walked -/
namespace K79
open PySem L2 Pl
theorem sub_none {M M' : Hm} {a : Addr} (s : Sub M M') (h : M' a = none) : M a = none := by
  cases q : M a with
  | none => rfl
  | some o => rw [s _ _ q] at h; cases h
end K79

set_option maxHeartbeats 1000000
/-! k79: what holds between turns -/
namespace K79
open PySem L2 Pl
def B_law_pop (law_draw : Nat) : S := (.seq (.ret (.mth .popAt (.var 1) (.cons (.call law_draw (.cons (.var 0) (.cons (.blt .len (.cons (.var 1) .nil)) .nil))) .nil))) .skip)
theorem cutU_from {α : Type} (l : List α) (n : Nat) : cutU l (some (n : Int)) none = l.drop n := by
  unfold cutU HT.sIx
  simp only
  rw [if_neg (by omega), Int.toNat_natCast]
  rcases Nat.le_total n l.length with h | h
  · rw [Nat.min_eq_left h]
    exact List.take_of_length_le (by rw [List.length_drop]; exact Nat.le_refl _)
  · rw [Nat.min_eq_right h, List.drop_length, List.drop_of_length_le h, List.take_nil]
structure Inv (p : Addr × Addr) (fa na R O : Addr) (fl nl : List Str) (t : Nat) (M : Hm) (rows olds : List (Addr × It)) : Prop where
  dr : Dr M p
  ff : M fa = some (.lst (fl.map U.str))
  nn : M na = some (.lst (nl.map U.str))
  rr : M R = some (.lst (rows.map fun q => .ref q.1))
  oo : M O = some (.lst (olds.map fun q => .ref q.1))
  two : rows.length = 2
  ol : olds.length ≤ t
  nd : (p.1 :: p.2 :: fa :: na :: R :: O :: rows.map (·.1)).Nodup
  on : ∀ q ∈ olds, q.1 ≠ p.1 ∧ q.1 ≠ O ∧ q.1 ∉ rows.map (·.1)
  ra : ∀ q ∈ rows, RowAt' M q ∧ HoldI (60 * t) M q.2
  oa : ∀ q ∈ olds, OldAt M q ∧ HoldI (60 * t) M q.2
  dd : (dicts rows ++ dicts olds).Nodup
theorem dr_lst {M : Hm} {p : Addr × Addr} (d : Dr M p) : ∃ us, M p.1 = some (.lst us) := by
  obtain ⟨cells, a, b, c, hn, hp, hc, ha⟩ := d
  exact ⟨_, hp⟩
theorem HoldI.fr {B : Nat} {M M' : Hm} {i : It} {P : Addr → Prop} (h : HoldI B M i) (hP : ∀ x, P x → ∃ us, M x = some (.lst us)) (fr : ∀ x, ¬ P x → ∀ o, M x = some o → M' x = some o) : HoldI B M' i := by
  have key : ∀ x o, M x = some o → (∀ us, o ≠ .lst us) → M' x = some o := fun x o e hn => fr x (fun px => by
    obtain ⟨us, e2⟩ := hP x px
    rw [e2] at e
    exact hn us (Option.some.inj e).symm) o e
  refine h.move (fun o e => ?_) (fun o e => ?_) (fun o e => ?_)
  · have := h.1.1; rw [this] at e; cases e; exact key _ _ this (fun us z => by cases z)
  · have := h.1.2; rw [this] at e; cases e; exact key _ _ this (fun us z => by cases z)
  · have := h.2.1; rw [this] at e; cases e; exact key _ _ this (fun us z => by cases z)
theorem Inv.move {p : Addr × Addr} {fa na R O : Addr} {fl nl : List Str} {t : Nat} {M M' : Hm} {rows olds : List (Addr × It)} (I : Inv p fa na R O fl nl t M rows olds) (d : Dr M' p) (fr : Fr p M M') : Inv p fa na R O fl nl t M' rows olds := by
  have nd := I.nd
  have n : ∀ x ∈ fa :: na :: R :: O :: rows.map (·.1), x ≠ p.1 := fun x hx e => by
    subst e
    rw [List.nodup_cons] at nd
    exact nd.1 (List.mem_cons_of_mem _ hx)
  have hI : ∀ {i : It}, HoldI (60 * t) M i → HoldI (60 * t) M' i := fun h => h.fr (P := fun x => x = p.1) (fun x e => by rw [e]; exact dr_lst I.dr) (fun x hx o e => fr x hx o e)
  refine ⟨d, fr.at_ (n _ (by simp)) I.ff, fr.at_ (n _ (by simp)) I.nn, fr.at_ (n _ (by simp)) I.rr, fr.at_ (n _ (by simp)) I.oo, I.two, I.ol, I.nd, I.on, fun q hq => ?_, fun q hq => ?_, I.dd⟩
  · obtain ⟨h1, h2⟩ := I.ra q hq
    exact ⟨fr.at_ (n _ (by simp; exact .inr (.inr (.inr (.inr ⟨q.2, hq⟩)))) ) h1, hI h2⟩
  · obtain ⟨h1, h2⟩ := I.oa q hq
    exact ⟨fr.at_ (I.on q hq).1 h1, hI h2⟩
theorem dicts_append (a b : List (Addr × It)) : dicts (a ++ b) = dicts a ++ dicts b := by unfold dicts; rw [List.flatMap_append]
theorem Inv.turn {p : Addr × Addr} {fa na R O : Addr} {fl nl : List Str} {t : Nat} {M M' : Hm} {pre post olds new : List (Addr × It)} {rr : Addr} {i i' : It} (I : Inv p fa na R O fl nl t M (pre ++ (rr, i) :: post) olds)
    (T : Turned (60 * t) p rr O i (olds.map fun q => .ref q.1) M M' i' new) : Inv p fa na R O fl nl (t + 1) M' (pre ++ (rr, i') :: post) (olds ++ new) := by
  obtain ⟨hrow, hh⟩ := I.ra (rr, i) (by simp)
  have fst : (pre ++ (rr, i') :: post).map (·.1) = (pre ++ (rr, i) :: post).map (·.1) := by simp
  have nd := I.nd
  have dd := I.dd
  -- lists that are none of the four
  have ls : ∀ {x us}, M x = some (.lst us) → x ≠ p.1 → x ≠ rr → x ≠ O → M' x = some (.lst us) := fun {x us} e x1 x2 x3 => T.old x x1 x2 x3 (ne_kind e hh.1.2 (by unfold cellsM; intro z; cases z)) (ne_kind e hh.2.1 (by unfold cellsM; intro z; cases z)) _ e
  have hA : rr ∈ (pre ++ (rr, i) :: post).map (·.1) := by simp
  simp only [List.nodup_cons, List.mem_cons, not_or] at nd
  obtain ⟨⟨a1, a2, a3, a4, a5, a6⟩, ⟨b1, b2, b3, b4, b5⟩, ⟨c1, c2, c3, c4⟩, ⟨d1, d2, d3⟩, ⟨e1, e2⟩, f1, g1⟩ := nd
  have mem : ∀ {x}, x ∉ (pre ++ (rr, i) :: post).map (·.1) → x ≠ rr := fun h e => h (by rw [e]; exact hA)
  have isl : ∀ x, x = p.1 ∨ x = rr ∨ x = O → ∃ us, M x = some (.lst us) := fun x h => by
    rcases h with rfl | rfl | rfl
    · exact dr_lst I.dr
    · exact ⟨_, hrow⟩
    · exact ⟨_, I.oo⟩
  -- items whose tables are others
  have hI : ∀ {j : It}, HoldI (60 * t) M j → j.c ≠ i.c → j.c ≠ i.m → j.m ≠ i.c → j.m ≠ i.m → HoldI (60 * (t + 1)) M' j := fun {j} h x1 x2 x3 x4 => by
    have nl : ∀ x o, M x = some o → (∀ us, o ≠ .lst us) → x ≠ p.1 ∧ x ≠ rr ∧ x ≠ O := fun x o e hn => by
      have : ¬ (x = p.1 ∨ x = rr ∨ x = O) := fun z => by
        obtain ⟨us, e2⟩ := isl x z
        rw [e2] at e
        exact hn us (Option.some.inj e).symm
      exact ⟨fun z => this (.inl z), fun z => this (.inr (.inl z)), fun z => this (.inr (.inr z))⟩
    refine (h.move (fun o e => ?_) (fun o e => ?_) (fun o e => ?_)).mono (by omega)
    · have q := h.1.1
      rw [q] at e
      cases e
      obtain ⟨y1, y2, y3⟩ := nl _ _ q (fun us z => by cases z)
      exact T.old _ y1 y2 y3 (ne_kind q hh.1.2 (by unfold diskO cellsM; intro z; cases z)) (ne_kind q hh.2.1 (by unfold diskO cellsM; intro z; cases z)) _ q
    · have q := h.1.2
      rw [q] at e
      cases e
      obtain ⟨y1, y2, y3⟩ := nl _ _ q (fun us z => by cases z)
      exact T.old _ y1 y2 y3 x1 x2 _ q
    · have q := h.2.1
      rw [q] at e
      cases e
      obtain ⟨y1, y2, y3⟩ := nl _ _ q (fun us z => by cases z)
      exact T.old _ y1 y2 y3 x3 x4 _ q
  have dsplit : dicts (pre ++ (rr, i) :: post) = dicts pre ++ (i.c :: i.m :: dicts post) := by rw [dicts_append]; rfl
  rw [dsplit] at dd
  have hperm : (dicts pre ++ (i.c :: i.m :: dicts post) ++ dicts olds).Perm (i.c :: i.m :: (dicts pre ++ dicts post ++ dicts olds)) := by
    rw [List.append_assoc, List.append_assoc]
    refine (List.perm_append_comm (l₁ := dicts pre)).trans ?_
    show ((i.c :: i.m :: dicts post) ++ dicts olds ++ dicts pre).Perm _
    rw [List.cons_append, List.cons_append, List.cons_append, List.cons_append]
    refine .cons _ (.cons _ ?_)
    rw [List.append_assoc]
    have : (dicts post ++ (dicts olds ++ dicts pre)).Perm (dicts pre ++ (dicts post ++ dicts olds)) := by
      rw [← List.append_assoc]
      exact List.perm_append_comm
    exact this
  have dd2 := hperm.nodup_iff.mp dd
  rw [List.nodup_cons, List.nodup_cons] at dd2
  obtain ⟨u1, u2, u3⟩ := dd2
  have oth : ∀ q : Addr × It, q ∈ pre ++ post ∨ q ∈ olds → q.2.c ∈ dicts pre ++ dicts post ++ dicts olds ∧ q.2.m ∈ dicts pre ++ dicts post ++ dicts olds := fun q hq => by
    have h1 : ∀ l : List (Addr × It), q ∈ l → q.2.c ∈ dicts l ∧ q.2.m ∈ dicts l := fun l hl => ⟨List.mem_flatMap.mpr ⟨q, hl, by simp⟩, List.mem_flatMap.mpr ⟨q, hl, by simp⟩⟩
    rcases hq with hq | hq
    · rcases List.mem_append.mp hq with hq | hq
      · have := h1 _ hq; simp [this.1, this.2]
      · have := h1 _ hq; simp [this.1, this.2]
    · have := h1 _ hq; simp [this.1, this.2]
  have othI : ∀ q : Addr × It, q ∈ pre ++ post ∨ q ∈ olds → HoldI (60 * t) M q.2 → HoldI (60 * (t + 1)) M' q.2 := fun q hq h => by
    obtain ⟨v1, v2⟩ := oth q hq
    exact hI h (fun z => u1 (List.mem_cons_of_mem _ (z ▸ v1))) (fun z => u2 (z ▸ v1)) (fun z => u1 (List.mem_cons_of_mem _ (z ▸ v2))) (fun z => u2 (z ▸ v2))
  have rrm : ∀ q ∈ pre ++ post, q ∈ pre ++ (rr, i) :: post ∧ q.1 ≠ rr := fun q hq => by
    have h1 : q ∈ pre ++ (rr, i) :: post := by
      rcases List.mem_append.mp hq with h | h
      · exact List.mem_append_left _ h
      · exact List.mem_append_right _ (List.mem_cons_of_mem _ h)
    refine ⟨h1, fun e => ?_⟩
    rw [List.map_append, List.map_cons, List.nodup_append, List.nodup_cons] at g1
    rcases List.mem_append.mp hq with h | h
    · exact g1.2.2 q.1 (List.mem_map_of_mem h) rr List.mem_cons_self e
    · have hz : q.1 ∈ post.map (·.1) := List.mem_map_of_mem (f := fun x : Addr × It => x.1) h
      rw [e] at hz
      exact g1.2.1.1 hz
  have fm : ∀ q ∈ pre ++ (rr, i) :: post, q.1 ≠ p.1 ∧ q.1 ≠ O := fun q hq => by
    have h1 : q.1 ∈ (pre ++ (rr, i) :: post).map (·.1) := List.mem_map_of_mem hq
    exact ⟨fun e => a6 (e ▸ h1), fun e => f1 (e ▸ h1)⟩
  refine ⟨T.dr, ls I.ff (Ne.symm a2) (mem c4) c3, ls I.nn (Ne.symm a3) (mem d3) d2, ?_, ?_, ?_, ?_, ?_, ?_, ?_, ?_, ?_⟩
  · have := ls I.rr (Ne.symm a4) (mem e2) e1
    rw [this]
    simp
  · rw [T.olds, List.map_append]
  · have := I.two
    simp at this ⊢
    omega
  · have := I.ol
    have := T.one
    rw [List.length_append]
    omega
  · rw [fst]; exact I.nd
  · intro q hq
    rw [fst]
    rcases List.mem_append.mp hq with hq | hq
    · exact I.on q hq
    · obtain ⟨z1, z2, z3⟩ := T.news q hq
      refine ⟨fun e => ?_, fun e => ?_, fun hm => ?_⟩
      · obtain ⟨us, h⟩ := dr_lst I.dr
        rw [e, h] at z1; cases z1
      · rw [e, I.oo] at z1; cases z1
      · rw [List.mem_map] at hm
        obtain ⟨r, hr, e⟩ := hm
        have := (I.ra r hr).1
        unfold RowAt' at this
        rw [e, z1] at this
        cases this
  · intro q hq
    rcases List.mem_append.mp hq with h | h
    · obtain ⟨m1, m2⟩ := rrm q (List.mem_append_left _ h)
      obtain ⟨r1, r2⟩ := I.ra q m1
      obtain ⟨f2, f3⟩ := fm q m1
      exact ⟨ls r1 f2 m2 f3, othI q (.inl (List.mem_append_left _ h)) r2⟩
    · rcases List.mem_cons.mp h with rfl | h
      · exact ⟨T.row, T.hold⟩
      · obtain ⟨m1, m2⟩ := rrm q (List.mem_append_right _ h)
        obtain ⟨r1, r2⟩ := I.ra q m1
        obtain ⟨f2, f3⟩ := fm q m1
        exact ⟨ls r1 f2 m2 f3, othI q (.inl (List.mem_append_right _ h)) r2⟩
  · intro q hq
    rcases List.mem_append.mp hq with hq | hq
    · obtain ⟨r1, r2⟩ := I.oa q hq
      obtain ⟨o1, o2, o3⟩ := I.on q hq
      exact ⟨ls r1 o1 (mem o3) o2, othI q (.inr hq) r2⟩
    · obtain ⟨z1, z2, z3⟩ := T.news q hq
      exact ⟨z2, z3.mono (by omega)⟩
  · -- all tables are others
    have tn := T.nd
    have tf := T.fresh
    have hN : dicts ((rr, i') :: new) = [i'.c, i'.m] ++ dicts new := rfl
    have pp : (dicts (pre ++ (rr, i') :: post) ++ dicts (olds ++ new)).Perm (dicts ((rr, i') :: new) ++ (dicts pre ++ dicts post ++ dicts olds)) := by
      rw [dicts_append, dicts_append, hN, show dicts ((rr, i') :: post) = [i'.c, i'.m] ++ dicts post from rfl]
      generalize dicts pre = A
      generalize dicts post = P
      generalize dicts olds = L
      generalize dicts new = N
      generalize [i'.c, i'.m] = X
      have h1 : (A ++ (X ++ P) ++ (L ++ N)).Perm (X ++ (A ++ P) ++ (L ++ N)) := by
        refine List.Perm.append_right _ ?_
        rw [← List.append_assoc, ← List.append_assoc]
        exact List.Perm.append_right _ List.perm_append_comm
      refine h1.trans ?_
      rw [List.append_assoc, List.append_assoc X N]
      refine List.Perm.append_left _ ?_
      have h2 : (A ++ P ++ (L ++ N)).Perm (N ++ (A ++ P ++ L)) := by
        rw [← List.append_assoc]
        exact List.perm_append_comm
      exact h2
    rw [pp.nodup_iff, List.nodup_append]
    refine ⟨tn, u3, fun x hx y hy e => ?_⟩
    subst e
    have here : M x ≠ none := by
      have hx2 : ∀ l : List (Addr × It), (∀ q ∈ l, HoldI (60 * t) M q.2) → x ∈ dicts l → M x ≠ none := fun l hl hm => by
        obtain ⟨q, hq, hm⟩ := List.mem_flatMap.mp hm
        have := hl q hq
        simp only [List.mem_cons, List.not_mem_nil, or_false] at hm
        rcases hm with rfl | rfl
        · rw [this.1.2]; simp
        · rw [this.2.1]; simp
      rcases List.mem_append.mp hy with hy | hy
      · rcases List.mem_append.mp hy with hy | hy
        · exact hx2 pre (fun q hq => (I.ra q (List.mem_append_left _ hq)).2) hy
        · exact hx2 post (fun q hq => (I.ra q (List.mem_append_right _ (List.mem_cons_of_mem _ hq))).2) hy
      · exact hx2 olds (fun q hq => (I.oa q hq).2) hy
    rcases tf x hx with q | q | q
    · rw [q] at hy; exact u1 (List.mem_cons_of_mem _ hy)
    · rw [q] at hy; exact u2 hy
    · exact here q
end K79

set_option maxHeartbeats 1000000
/-! small stores and large ones, in plain Lean -/
namespace Pl
open PySem L2
abbrev Sm := Int × Cut
abbrev S2 := Int × Int
def smW (st : List Str) (c : Int) : List Str := st.filter fun w => decide (w ≠ "files") || decide (c ≠ -1)
def smPut (c : Int) (s : S2) (w : Str) : S2 := if w = "files" then (s.1, c) else if w = "paper" then (c, s.2) else (-3, s.2)
def smTear (s : S2) (w : Option Str) : S2 := if w = some ("files" : Str) then (s.1, -2) else (-2, s.2)
def smStep (st : List Str) (s : S2) (sm : Sm) : S2 :=
  let s1 := ((smW st sm.1).take (doneN (smW st sm.1).length sm.2).1).foldl (smPut sm.1) s
  if (doneN (smW st sm.1).length sm.2).2 = true then smTear s1 (smW st sm.1)[(doneN (smW st sm.1).length sm.2).1]? else s1
def smCuts (m : Nat) : List Cut := ((List.range m).flatMap fun i => [some (i, false), some (i, true)]) ++ [none]
def conts (n : Nat) : List Int := (List.range (n + 1)).map fun i => ((i : Nat) : Int) - 1
def smAll (n : Nat) (st : List Str) : List Sm := (conts n).flatMap fun c => (smCuts (smW st c).length).map fun k => (c, k)
def wrongS (cls : List Int) (s : S2) : Bool := decide (0 ≤ s.1 ∧ s.1 ≠ s.2 ∧ (cls = [] ∨ (0 ≤ s.2 ∧ clAt cls s.2 = clAt cls s.1)))
inductive RchS (n : Nat) (st : List Str) : S2 → Prop
  | start : RchS n st (-3, -3)
  | step {s : S2} {sm : Sm} : RchS n st s → sm ∈ smAll n st → RchS n st (smStep st s sm)
theorem conts_mem {n : Nat} {c : Int} : c ∈ conts n ↔ -1 ≤ c ∧ c < n := by
  unfold conts
  rw [List.mem_map]
  constructor
  · rintro ⟨i, hi, rfl⟩
    have := List.mem_range.mp hi
    omega
  · intro h
    exact ⟨(c + 1).toNat, List.mem_range.mpr (by omega), by omega⟩
theorem smCuts_mem {m : Nat} {k : Cut} : k ∈ smCuts m ↔ k = none ∨ ∃ i b, k = some (i, b) ∧ i < m := by
  unfold smCuts
  rw [List.mem_append, List.mem_flatMap, List.mem_singleton]
  constructor
  · rintro (⟨i, hi, h⟩ | h)
    · right
      have := List.mem_range.mp hi
      simp only [List.mem_cons, List.not_mem_nil, or_false] at h
      rcases h with rfl | rfl
      · exact ⟨i, false, rfl, this⟩
      · exact ⟨i, true, rfl, this⟩
    · exact .inl h
  · rintro (h | ⟨i, b, rfl, h⟩)
    · exact .inr h
    · refine .inl ⟨i, List.mem_range.mpr h, ?_⟩
      cases b <;> simp
theorem smAll_mem {n : Nat} {st : List Str} {sm : Sm} : sm ∈ smAll n st ↔ (-1 ≤ sm.1 ∧ sm.1 < n) ∧ (sm.2 = none ∨ ∃ i b, sm.2 = some (i, b) ∧ i < (smW st sm.1).length) := by
  unfold smAll
  rw [List.mem_flatMap]
  constructor
  · rintro ⟨c, hc, h⟩
    obtain ⟨k, hk, rfl⟩ := List.mem_map.mp h
    exact ⟨conts_mem.mp hc, smCuts_mem.mp hk⟩
  · rintro ⟨h1, h2⟩
    exact ⟨sm.1, conts_mem.mpr h1, List.mem_map.mpr ⟨sm.2, smCuts_mem.mpr h2, rfl⟩⟩
/-! large stores -/
def prj (f : Str) : Wr → Option Str
  | .drop => some "drop"
  | .paper => some "paper"
  | .file g _ => if g = f then some "files" else none
def contO (es : List Ev) (f : Str) : Int := (aget (layT es) f).getD (-1)
def cellV (ks : Cells) (r f : Str) : Int := match aget ks (r, f) with
  | some .torn => -2
  | some (.file c) => c
  | _ => -3
def heldW (es : List Ev) (h : Option (List Ev)) : Wr → Option (List Ev)
  | .paper => some es
  | .drop => none
  | .file _ _ => h
def heldTear (h : Option (List Ev)) : Option Wr → Option (List Ev)
  | some (.file _ _) => h
  | some _ => none
  | none => h
def heldT (st : List Str) (es : List Ev) (cut : Cut) (h : Option (List Ev)) : Option (List Ev) :=
  let h1 := ((writesT st es).take (doneN (writesT st es).length cut).1).foldl (heldW es) h
  if (doneN (writesT st es).length cut).2 = true then heldTear h1 (writesT st es)[(doneN (writesT st es).length cut).1]? else h1
/-- the paper's cell -/
def PapR (cls : List Int) (ks : Cells) (r : Str) : Option (List Ev) → Prop
  | some t => aget ks (r, "") = some (celOf cls t .paper)
  | none => aget ks (r, "") = none ∨ aget ks (r, "") = some .torn
/-- one file's small state -/
structure SmR (ks : Cells) (r f : Str) (h : Option (List Ev)) (s : S2) : Prop where
  q : s.2 = cellV ks r f
  p : match h with | some t => s.1 = contO t f | none => s.1 ≤ -2
theorem aget_aput {α β : Type} [DecidableEq α] (ks : List (α × β)) (k k' : α) (v : β) : aget (aput ks k v) k' = if k' = k then some v else aget ks k' := by
  unfold aput
  split
  · rename_i h
    induction ks with
    | nil => cases h
    | cons p ks ih =>
      rw [List.map_cons, aget_cons, aget_cons]
      rw [aget_cons] at h
      by_cases e : p.1 = k
      · rw [if_pos e]
        dsimp only
        by_cases e2 : k' = k
        · rw [if_pos e2, if_pos (by rw [e, e2])]
        · rw [if_neg e2, if_neg (by rw [e]; exact fun z => e2 z.symm), if_neg (by rw [e]; exact fun z => e2 z.symm)]
          by_cases h2 : (aget ks k).isSome = true
          · rw [ih h2, if_neg e2]
          · have : (ks.map fun p => if p.1 = k then (p.1, v) else p) = ks := by
              rw [List.map_congr_left (g := id), List.map_id]
              intro q hq
              rw [if_neg]
              · rfl
              · intro z
                refine aget_none (by simpa using h2) q hq z
            rw [this]
      · rw [if_neg e]
        rw [if_neg e] at h
        by_cases e2 : p.1 = k'
        · rw [if_pos e2, if_pos e2, if_neg (by rw [← e2]; exact e)]
        · rw [if_neg e2, if_neg e2]
          exact ih h
  · rename_i h
    have hn : aget ks k = none := by simpa using h
    induction ks with
    | nil =>
      rw [List.nil_append, aget_cons, aget_nil]
      dsimp only
      by_cases e : k' = k
      · rw [if_pos e, if_pos e.symm]
      · rw [if_neg e, if_neg fun z => e z.symm]
    | cons p ks ih =>
      rw [List.cons_append, aget_cons, aget_cons]
      rw [aget_cons] at hn
      by_cases e : p.1 = k
      · rw [if_pos e] at hn; cases hn
      · rw [if_neg e] at hn
        have := ih (by simp [hn]) hn
        rw [this]
        by_cases e2 : p.1 = k'
        · rw [if_pos e2, if_pos e2, if_neg (by rw [← e2]; exact e)]
        · rw [if_neg e2, if_neg e2]
theorem aget_adrop {α β : Type} [DecidableEq α] (ks : List (α × β)) (k k' : α) : aget (adrop ks k) k' = if k' = k then none else aget ks k' := by
  unfold adrop
  induction ks with
  | nil => rw [List.filter_nil, aget_nil]; split <;> rfl
  | cons p ks ih =>
    rw [List.filter_cons]
    by_cases e : p.1 = k
    · rw [if_neg (by simp [e]), ih, aget_cons]
      by_cases e2 : k' = k
      · rw [if_pos e2, if_pos e2]
      · rw [if_neg e2, if_neg e2, if_neg (by rw [e]; exact fun z => e2 z.symm)]
    · rw [if_pos (by simp [e]), aget_cons, aget_cons, ih]
      by_cases e2 : p.1 = k'
      · rw [if_pos e2, if_pos e2, if_neg (by rw [← e2]; exact e)]
      · rw [if_neg e2, if_neg e2]
def WOk (es : List Ev) (w : Wr) : Prop := ∀ g c, w = .file g c → g ≠ "" ∧ aget (layT es) g = some c
section
variable {cls : List Int} {es : List Ev} {r : Str} {ks : Cells} {h : Option (List Ev)}
theorem pap_put (hp : PapR cls ks r h) {w : Wr} (hw : WOk es w) : PapR cls (putW cls es r ks w) r (heldW es h w) := by
  cases w with
  | drop => exact .inl (by show aget (adrop ks (r, "")) (r, "") = none; rw [aget_adrop, if_pos rfl])
  | paper => show aget (aput ks (r, "") _) (r, "") = _; rw [aget_aput, if_pos rfl]; rfl
  | file g c =>
    have e : aget (putW cls es r ks (.file g c)) (r, "") = aget ks (r, "") := by
      show aget (aput ks (r, g) _) (r, "") = _
      rw [aget_aput, if_neg fun z => (hw g c rfl).1 (congrArg Prod.snd z).symm]
    show PapR cls _ r h
    unfold PapR at hp ⊢
    rw [e]
    exact hp
theorem sm_put {f : Str} (hf : f ≠ "") {s : S2} (hs : SmR ks r f h s) {w : Wr} (hw : WOk es w) : SmR (putW cls es r ks w) r f (heldW es h w) (match prj f w with | some x => smPut (contO es f) s x | none => s) := by
  have hfp : ("files" : Str) ≠ "paper" := by decide +kernel
  have hdf : ("drop" : Str) ≠ "files" := by decide +kernel
  have hdp : ("drop" : Str) ≠ "paper" := by decide +kernel
  cases w with
  | drop =>
    have e : smPut (contO es f) s "drop" = (-3, s.2) := by unfold smPut; rw [if_neg hdf, if_neg hdp]
    show SmR (adrop ks (r, "")) r f none (smPut (contO es f) s "drop")
    rw [e]
    refine ⟨?_, by show (-3 : Int) ≤ -2; decide⟩
    unfold cellV
    rw [aget_adrop, if_neg fun z => hf (congrArg Prod.snd z)]
    exact hs.q
  | paper =>
    have e : smPut (contO es f) s "paper" = (contO es f, s.2) := by unfold smPut; rw [if_neg hfp.symm, if_pos rfl]
    show SmR (aput ks (r, "") _) r f (some es) (smPut (contO es f) s "paper")
    rw [e]
    refine ⟨?_, rfl⟩
    unfold cellV
    rw [aget_aput, if_neg fun z => hf (congrArg Prod.snd z)]
    exact hs.q
  | file g c =>
    by_cases hg : g = f
    · have e1 : prj f (.file g c) = some "files" := if_pos hg
      have e : smPut (contO es f) s "files" = (s.1, contO es f) := by unfold smPut; rw [if_pos rfl]
      show SmR (aput ks (r, g) (.file c)) r f h _
      rw [e1]
      show SmR (aput ks (r, g) (.file c)) r f h (smPut (contO es f) s "files")
      rw [e]
      refine ⟨?_, hs.p⟩
      unfold cellV
      rw [aget_aput, if_pos (by rw [hg])]
      unfold contO
      rw [← hg, (hw g c rfl).2]
      rfl
    · have e1 : prj f (.file g c) = none := if_neg hg
      show SmR (aput ks (r, g) (.file c)) r f h _
      rw [e1]
      refine ⟨?_, hs.p⟩
      unfold cellV
      rw [aget_aput, if_neg fun z => hg (congrArg Prod.snd z).symm]
      exact hs.q
theorem pap_fold (ws : List Wr) : ∀ {ks : Cells} {h : Option (List Ev)}, PapR cls ks r h → (∀ w ∈ ws, WOk es w) → PapR cls (ws.foldl (putW cls es r) ks) r (ws.foldl (heldW es) h) := by
  induction ws with
  | nil => intro ks h hp _; exact hp
  | cons w ws ih => intro ks h hp hw; exact ih (pap_put hp (hw w List.mem_cons_self)) fun x hx => hw x (List.mem_cons_of_mem _ hx)
theorem sm_fold {f : Str} (hf : f ≠ "") (ws : List Wr) : ∀ {ks : Cells} {h : Option (List Ev)} {s : S2}, SmR ks r f h s → (∀ w ∈ ws, WOk es w) → SmR (ws.foldl (putW cls es r) ks) r f (ws.foldl (heldW es) h) ((ws.filterMap (prj f)).foldl (smPut (contO es f)) s) := by
  induction ws with
  | nil => intro ks h s hs _; exact hs
  | cons w ws ih =>
    intro ks h s hs hw
    have h1 := sm_put (cls := cls) hf hs (hw w List.mem_cons_self)
    have h2 := ih h1 fun x hx => hw x (List.mem_cons_of_mem _ hx)
    rw [List.foldl_cons, List.foldl_cons, List.filterMap_cons]
    cases e : prj f w with
    | none => rw [e] at h2; exact h2
    | some x => rw [e] at h2; exact h2
end
/-! what is written, seen from one file -/
theorem prj_keys (f : Str) : ∀ {l : List (Str × Int)}, (l.map (·.1)).Nodup → (l.map fun p => Wr.file p.1 p.2).filterMap (prj f) = if (aget l f).isSome = true then [("files" : Str)] else []
  | [], _ => rfl
  | p :: l, nd => by
    rw [List.map_cons, List.nodup_cons] at nd
    have ih := prj_keys f nd.2
    rw [List.map_cons, List.filterMap_cons, aget_cons]
    by_cases e : p.1 = f
    · have e1 : prj f (Wr.file p.1 p.2) = some "files" := if_pos e
      have e2 : aget l f = none := by
        cases h : aget l f with
        | none => rfl
        | some v => exact absurd (by rw [e]; exact List.mem_map.mpr ⟨_, aget_mem h, rfl⟩) nd.1
      rw [e1, ih, e2, if_pos e]
      rfl
    · have e1 : prj f (Wr.file p.1 p.2) = none := if_neg e
      rw [e1, ih, if_neg e]
def StW (st : List Str) : Prop := ∀ w ∈ st, w = "drop" ∨ w = "files" ∨ w = "paper"
theorem cont_some {n : Nat} {es : List Ev} (ht : TrOk n es) (f : Str) : ((aget (layT es) f).isSome = true ↔ contO es f ≠ -1) ∧ -1 ≤ contO es f ∧ contO es f < n ∨ n = 0 := by
  unfold contO
  cases e : aget (layT es) f with
  | none =>
    by_cases h : n = 0
    · exact .inr h
    · left; simp; omega
  | some c =>
    have := (ht _ _ (layT_mem (aget_mem e))).2.2
    left
    simp
    omega
theorem prj_all {n : Nat} {st : List Str} {es : List Ev} (hn : 0 < n) (hst : StW st) (ht : TrOk n es) (f : Str) : (writesT st es).filterMap (prj f) = smW st (contO es f) := by
  have hc := (cont_some ht f).resolve_right (by omega)
  unfold writesT smW
  induction st with
  | nil => rfl
  | cons w st ih =>
    have ih := ih fun x hx => hst x (List.mem_cons_of_mem _ hx)
    rw [List.flatMap_cons, List.filterMap_append, ih, List.filter_cons]
    rcases hst w List.mem_cons_self with rfl | rfl | rfl
    · have e : wrOf es "drop" = [.drop] := if_pos rfl
      rw [e, if_pos (by rw [Bool.or_eq_true]; exact .inl (by decide +kernel))]
      rfl
    · have e : wrOf es "files" = (layT es).map fun p => .file p.1 p.2 := by
        unfold wrOf
        rw [if_neg (by decide +kernel), if_neg (by decide +kernel)]
      rw [e, prj_keys f (layT_nodup es)]
      by_cases h : (aget (layT es) f).isSome = true
      · rw [if_pos h, if_pos (by rw [Bool.or_eq_true]; exact .inr (decide_eq_true (hc.1.mp h)))]
        rfl
      · rw [if_neg h, if_neg (by
          rw [Bool.or_eq_true]
          rintro (z | z)
          · exact absurd (of_decide_eq_true z) (by decide +kernel)
          · exact h (hc.1.mpr (of_decide_eq_true z)))]
        rfl
    · have e : wrOf es "paper" = [.paper] := by
        unfold wrOf
        rw [if_neg (by decide +kernel), if_pos rfl]
      rw [e, if_pos (by rw [Bool.or_eq_true]; exact .inl (by decide +kernel))]
      rfl
theorem writes_ok' {n : Nat} {st : List Str} {es : List Ev} (ht : TrOk n es) : ∀ w ∈ writesT st es, WOk es w := fun w hw g c e => by
  subst e
  rcases wr_mem hw with z | z | ⟨p, hp, z⟩
  · cases z
  · cases z
  · injection z with z1 z2
    rw [z1, z2]
    exact ⟨(ht _ _ (layT_mem hp)).2.1, aget_of_mem (layT_nodup es) hp⟩
theorem take_filterMap {α β : Type} (g : α → Option β) : ∀ (l : List α) (m : Nat), (l.take m).filterMap g = (l.filterMap g).take ((l.take m).filterMap g).length
  | [], m => by simp
  | x :: l, 0 => by simp
  | x :: l, m + 1 => by
    rw [List.take_succ_cons, List.filterMap_cons, List.filterMap_cons]
    have ih := take_filterMap g l m
    cases e : g x with
    | none => exact ih
    | some y =>
      dsimp only
      rw [List.length_cons, List.take_succ_cons, ← ih]
theorem get_filterMap {α β : Type} (g : α → Option β) : ∀ (l : List α) (m : Nat) (x : α) (y : β), l[m]? = some x → g x = some y → (l.filterMap g)[((l.take m).filterMap g).length]? = some y
  | [], m, x, y, h, _ => by simp at h
  | a :: l, 0, x, y, h, e => by
    have h : a = x := by simpa using h
    subst h
    rw [List.filterMap_cons, e]
    rfl
  | a :: l, m + 1, x, y, h, e => by
    have h : l[m]? = some x := by simpa using h
    have ih := get_filterMap g l m x y h e
    rw [List.take_succ_cons, List.filterMap_cons, List.filterMap_cons]
    cases e2 : g a with
    | none => exact ih
    | some z =>
      dsimp only
      rw [List.length_cons, List.getElem?_cons_succ]
      exact ih
/-- the small store that one file sees -/
def cutF (st : List Str) (es : List Ev) (f : Str) (cut : Cut) : Cut :=
  let m := (((writesT st es).take (doneN (writesT st es).length cut).1).filterMap (prj f)).length
  let b := (doneN (writesT st es).length cut).2 && (match (writesT st es)[(doneN (writesT st es).length cut).1]? with | some w => (prj f w).isSome | none => false)
  if m < (smW st (contO es f)).length then some (m, b) else none
theorem sim_store {n : Nat} {cls : List Int} {st : List Str} {es : List Ev} {cut : Cut} {ks : Cells} {r f : Str} {h : Option (List Ev)} {s : S2} (hn : 0 < n) (hst : StW st) (ht : TrOk n es) (hf : f ≠ "") (hs : SmR ks r f h s) :
    SmR (storeT cls st es r cut ks) r f (heldT st es cut h) (smStep st s (contO es f, cutF st es f cut)) ∧ (contO es f, cutF st es f cut) ∈ smAll n st := by
  have hW := writes_ok' (st := st) ht
  have hP := prj_all hn hst ht f
  have hc := ((cont_some ht f).resolve_right (by omega)).2
  have hfold := sm_fold (cls := cls) (es := es) hf ((writesT st es).take (doneN (writesT st es).length cut).1) hs fun w hw => hW w (List.mem_of_mem_take hw)
  have ht1 := take_filterMap (prj f) (writesT st es) (doneN (writesT st es).length cut).1
  rw [hP] at ht1
  have hlt := fun z => doneN_lt (m := (writesT st es).length) (cut := cut) z
  have hgf := fun x y => get_filterMap (prj f) (writesT st es) (doneN (writesT st es).length cut).1 x y
  rw [hP] at hgf
  refine ⟨?_, smAll_mem.mpr ⟨hc, ?_⟩⟩
  · unfold storeT heldT smStep cutF
    dsimp only
    generalize (writesT st es).take (doneN (writesT st es).length cut).1 = TK at *
    generalize hm : (TK.filterMap (prj f)).length = m at *
    generalize doneN (writesT st es).length cut = D at *
    have hml : m ≤ (smW st (contO es f)).length := by
      have := congrArg List.length ht1
      rw [List.length_take, hm] at this
      omega
    rw [ht1] at hfold
    -- nothing is torn that the file sees
    have plain : ∀ b : Bool, b = false → (if m < (smW st (contO es f)).length then some (m, b) else none : Cut) = (if m < (smW st (contO es f)).length then some (m, false) else none) := fun b hb => by rw [hb]
    have stepF : smStep st s (contO es f, if m < (smW st (contO es f)).length then some (m, false) else none) = ((smW st (contO es f)).take m).foldl (smPut (contO es f)) s := by
      unfold smStep
      dsimp only
      by_cases hlt2 : m < (smW st (contO es f)).length
      · rw [if_pos hlt2]
        have e : doneN (smW st (contO es f)).length (some (m, false)) = (m, false) := if_neg (by omega)
        rw [e]
        rfl
      · rw [if_neg hlt2]
        have e : m = (smW st (contO es f)).length := by omega
        show (if false = true then _ else _) = _
        rw [if_neg (by decide), e]
        rfl
    have stepT : m < (smW st (contO es f)).length → smStep st s (contO es f, some (m, true)) = smTear (((smW st (contO es f)).take m).foldl (smPut (contO es f)) s) (smW st (contO es f))[m]? := fun hlt2 => by
      unfold smStep
      dsimp only
      have e : doneN (smW st (contO es f)).length (some (m, true)) = (m, true) := if_neg (by omega)
      rw [e]
      rfl
    show SmR _ r f _ (smStep st s (contO es f, if m < (smW st (contO es f)).length then some (m, _) else none))
    cases hb : D.2 with
    | false =>
      rw [if_neg (by decide), if_neg (by decide), Bool.false_and, stepF]
      exact hfold
    | true =>
      rw [if_pos rfl, if_pos rfl, Bool.true_and]
      have hl := hlt hb
      have hg : (writesT st es)[D.1]? = some (writesT st es)[D.1] := List.getElem?_eq_getElem hl
      have hw := hW _ (List.getElem_mem hl)
      rw [hg]
      generalize (writesT st es)[D.1] = w at *
      dsimp only
      cases hp : prj f w with
      | none =>
        show SmR _ r f _ (smStep st s (contO es f, if m < (smW st (contO es f)).length then some (m, false) else none))
        rw [stepF]
        cases w with
        | drop => cases hp
        | paper => cases hp
        | file g c =>
          have hgf : g ≠ f := fun z => by
            have e : prj f (.file g c) = some ("files" : Str) := if_pos z
            rw [e] at hp; cases hp
          refine ⟨?_, hfold.p⟩
          have := hfold.q
          unfold cellV at this ⊢
          rw [aget_aput, if_neg fun z => hgf (congrArg Prod.snd z).symm]
          exact this
      | some x =>
        have hx := hgf _ _ hg hp
        have hlt2 : m < (smW st (contO es f)).length := (List.getElem?_eq_some_iff.mp hx).1
        show SmR _ r f _ (smStep st s (contO es f, if m < (smW st (contO es f)).length then some (m, true) else none))
        rw [if_pos hlt2, stepT hlt2, hx]
        cases w with
        | drop =>
          have e : x = "drop" := (Option.some.inj hp).symm
          subst e
          unfold smTear
          rw [if_neg (by decide +kernel)]
          refine ⟨?_, by show (-2 : Int) ≤ -2; decide⟩
          have := hfold.q
          unfold cellV at this ⊢
          rw [aget_aput, if_neg fun z => hf (congrArg Prod.snd z)]
          exact this
        | paper =>
          have e : x = "paper" := (Option.some.inj hp).symm
          subst e
          unfold smTear
          rw [if_neg (by decide +kernel)]
          refine ⟨?_, by show (-2 : Int) ≤ -2; decide⟩
          have := hfold.q
          unfold cellV at this ⊢
          rw [aget_aput, if_neg fun z => hf (congrArg Prod.snd z)]
          exact this
        | file g c =>
          have hgf : g = f := Classical.byContradiction fun z => by
            have e : prj f (.file g c) = none := if_neg z
            rw [e] at hp; cases hp
          have e : x = "files" := by
            have e : prj f (.file g c) = some ("files" : Str) := if_pos hgf
            rw [e] at hp; exact (Option.some.inj hp).symm
          subst e
          unfold smTear
          rw [if_pos rfl]
          refine ⟨?_, hfold.p⟩
          unfold cellV
          rw [aget_aput, if_pos (by rw [hgf]; rfl)]
  · unfold cutF
    dsimp only
    split
    · rename_i hm
      exact .inr ⟨_, _, rfl, hm⟩
    · exact .inl rfl
theorem pap_store {n : Nat} {cls : List Int} {st : List Str} {es : List Ev} {cut : Cut} {ks : Cells} {r : Str} {h : Option (List Ev)} (ht : TrOk n es) (hp : PapR cls ks r h) : PapR cls (storeT cls st es r cut ks) r (heldT st es cut h) := by
  have hW := writes_ok' (st := st) ht
  have hfold := pap_fold (cls := cls) (es := es) ((writesT st es).take (doneN (writesT st es).length cut).1) hp fun w hw => hW w (List.mem_of_mem_take hw)
  have hlt := fun z => doneN_lt (m := (writesT st es).length) (cut := cut) z
  unfold storeT heldT
  dsimp only
  cases hb : (doneN (writesT st es).length cut).2 with
  | false => exact hfold
  | true =>
    have hl := hlt hb
    have hw := hW _ (List.getElem_mem hl)
    rw [if_pos rfl, if_pos rfl, List.getElem?_eq_getElem hl]
    generalize (writesT st es)[(doneN (writesT st es).length cut).1] = w at *
    dsimp only
    cases w with
    | drop => exact .inr (by show aget (aput _ (r, ("" : Str)) _) (r, ("" : Str)) = _; rw [aget_aput, if_pos rfl])
    | paper => exact .inr (by show aget (aput _ (r, ("" : Str)) _) (r, ("" : Str)) = _; rw [aget_aput, if_pos rfl])
    | file g c =>
      have e : ∀ k : Cells, aget (aput k (r, g) .torn) (r, "") = aget k (r, "") := fun k => by rw [aget_aput, if_neg fun z => (hw g c rfl).1 (congrArg Prod.snd z).symm]
      show PapR cls (aput _ (r, g) .torn) r _
      unfold PapR at hfold ⊢
      rw [e]
      exact hfold
end Pl

set_option maxHeartbeats 1000000
/-! what is found on a safe disk -/
namespace Pl
open PySem L2 K79
section
variable {n : Nat} {st : List Str} {cls : List Int} {ks : Cells} {r : Str}
/-- what a rule's cells hold, on the way -/
structure RuleR (n : Nat) (st : List Str) (cls : List Int) (ks : Cells) (r : Str) (h : Option (List Ev)) : Prop where
  pap : PapR cls ks r h
  tr : ∀ t, h = some t → TrOk n t
  sm : ∀ f : Str, f ≠ "" → ∃ s, RchS n st s ∧ SmR ks r f h s
/-- the last store was whole, and nothing drops the paper behind -/
def WholeR (cls : List Int) (ks : Cells) (r : Str) (t : List Ev) : Prop := aget ks (r, "") = some (celOf cls t .paper) ∧ ∀ p ∈ layT t, aget ks (r, p.1) = some (.file p.2)
theorem RuleR.store {h : Option (List Ev)} {es : List Ev} {cut : Cut} (hn : 0 < n) (hst : StW st) (ht : TrOk n es) (hr : RuleR n st cls ks r h) : RuleR n st cls (storeT cls st es r cut ks) r (heldT st es cut h) := by
  refine ⟨pap_store ht hr.pap, fun t e => ?_, fun f hf => ?_⟩
  · have key : ∀ (ws : List Wr) (h : Option (List Ev)), (∀ t, h = some t → TrOk n t) → ∀ t, ws.foldl (heldW es) h = some t → TrOk n t := fun ws => by
      induction ws with
      | nil => exact fun h hh t e => hh t e
      | cons w ws ih =>
        intro h hh t e
        refine ih (heldW es h w) (fun t' e' => ?_) t e
        cases w with
        | drop => cases e'
        | paper => rw [← Option.some.inj e']; exact ht
        | file g c => exact hh t' e'
    unfold heldT at e
    dsimp only at e
    have k1 := key ((writesT st es).take (doneN (writesT st es).length cut).1) h hr.tr
    split at e
    · cases hw : (writesT st es)[(doneN (writesT st es).length cut).1]? with
      | none => rw [hw] at e; exact k1 t e
      | some w =>
        rw [hw] at e
        cases w with
        | drop => cases e
        | paper => cases e
        | file g c => exact k1 t e
    · exact k1 t e
  · obtain ⟨s, s1, s2⟩ := hr.sm f hf
    obtain ⟨h1, h2⟩ := sim_store (cls := cls) (cut := cut) hn hst ht hf s2
    exact ⟨_, .step s1 h2, h1⟩
theorem RuleR.other {h : Option (List Ev)} {ks' : Cells} (e : ∀ f, aget ks' (r, f) = aget ks (r, f)) (hr : RuleR n st cls ks r h) : RuleR n st cls ks' r h := by
  refine ⟨?_, hr.tr, fun f hf => ?_⟩
  · have := hr.pap
    unfold PapR at this ⊢
    rw [e]
    exact this
  · obtain ⟨s, s1, s2⟩ := hr.sm f hf
    refine ⟨s, s1, ?_, s2.p⟩
    have := s2.q
    unfold cellV at this ⊢
    rw [e]
    exact this
theorem WholeR.other {t : List Ev} {ks' : Cells} (e : ∀ f, aget ks' (r, f) = aget ks (r, f)) (h : WholeR cls ks r t) : WholeR cls ks' r t := ⟨by rw [e]; exact h.1, fun p hp => by rw [e]; exact h.2 p hp⟩
theorem RuleR.init : RuleR n st cls [] r none := ⟨.inl rfl, (fun _ z => nomatch z), fun f _ => ⟨(-3, -3), .start, rfl, by show (-3 : Int) ≤ -2; decide⟩⟩
end
/-! whole stores -/
def lateS (st : List Str) : Bool := decide (("drop" : Str) ∈ st) && decide (st.idxOf ("paper" : Str) < st.idxOf ("drop" : Str))
def heldS (es : List Ev) (h : Option (List Ev)) (w : Str) : Option (List Ev) := if w = "drop" then none else if w = "paper" then some es else h
theorem held_all (es : List Ev) : ∀ (st : List Str) (h : Option (List Ev)), StW st → (writesT st es).foldl (heldW es) h = st.foldl (heldS es) h
  | [], _, _ => rfl
  | w :: st, h, hst => by
    have ih := fun h => held_all es st h fun x hx => hst x (List.mem_cons_of_mem _ hx)
    unfold writesT at ih ⊢
    rw [List.flatMap_cons, List.foldl_append, ih, List.foldl_cons]
    congr 1
    rcases hst w List.mem_cons_self with rfl | rfl | rfl
    · rfl
    · have e : wrOf es "files" = (layT es).map fun p => .file p.1 p.2 := by
        unfold wrOf
        rw [if_neg (by decide +kernel), if_neg (by decide +kernel)]
      have e2 : heldS es h "files" = h := by
        unfold heldS
        rw [if_neg (by decide +kernel), if_neg (by decide +kernel)]
      rw [e, e2]
      generalize layT es = l
      induction l with
      | nil => rfl
      | cons p l ih => exact ih
    · have e : wrOf es "paper" = [.paper] := by
        unfold wrOf
        rw [if_neg (by decide +kernel), if_pos rfl]
      have e2 : heldS es h "paper" = some es := by
        unfold heldS
        rw [if_neg (by decide +kernel), if_pos rfl]
      rw [e, e2]
      rfl
theorem held_whole {st : List Str} (ho : st ∈ ordersL) (hl : lateS st = false) (es : List Ev) (h : Option (List Ev)) : st.foldl (heldS es) h = some es := by
  have d1 : ("files" : Str) ≠ "drop" := by decide +kernel
  have d2 : ("files" : Str) ≠ "paper" := by decide +kernel
  have d3 : ("paper" : Str) ≠ "drop" := by decide +kernel
  unfold ordersL at ho
  simp only [List.mem_cons, List.not_mem_nil, or_false] at ho
  rcases ho with rfl | rfl | rfl | rfl | rfl | rfl | rfl | rfl <;> first | (exfalso; revert hl; decide +kernel) | (simp [heldS, d1, d2, d3])
theorem small_whole {st : List Str} (ho : st ∈ ordersL) {c : Int} (hc : c ≠ -1) (s : S2) : (smStep st s (c, none)).2 = c := by
  have d1 : ("files" : Str) ≠ "drop" := by decide +kernel
  have d2 : ("files" : Str) ≠ "paper" := by decide +kernel
  have d3 : ("paper" : Str) ≠ "drop" := by decide +kernel
  have e : smStep st s (c, none) = st.foldl (smPut c) s := by
    have hw : smW st c = st := List.filter_eq_self.mpr fun x _ => by rw [Bool.or_eq_true]; exact .inr (decide_eq_true hc)
    unfold smStep
    dsimp only
    rw [hw]
    show (if false = true then _ else (st.take st.length).foldl (smPut c) s) = _
    rw [if_neg (by decide), List.take_length]
  rw [e]
  unfold ordersL at ho
  simp only [List.mem_cons, List.not_mem_nil, or_false] at ho
  rcases ho with rfl | rfl | rfl | rfl | rfl | rfl | rfl | rfl <;> simp [smPut, d1, d2, d3, d1.symm, d2.symm, d3.symm]
theorem ordersW {st : List Str} (ho : st ∈ ordersL) : StW st := (ord_ok st ho).2
theorem cell_file {n : Nat} {cls : List Int} {ks : Cells} {r f : Str} {c : Int} (h : cellV ks r f = c) (h0 : 0 ≤ c) : aget ks (r, f) = some (.file c) := by
  unfold cellV at h
  cases e : aget ks (r, f) with
  | none => rw [e] at h; simp at h; omega
  | some x =>
    rw [e] at h
    cases x with
    | torn => simp at h; omega
    | file c' => simp at h; rw [h]
    | paper a b d => simp at h; omega
theorem RuleR.whole {n : Nat} {st : List Str} {cls : List Int} {ks : Cells} {r : Str} {h : Option (List Ev)} {es : List Ev} {cut : Cut} (hn : 0 < n) (ho : st ∈ ordersL) (hl : lateS st = false) (ht : TrOk n es) (hr : RuleR n st cls ks r h) (hw : (doneN (writesT st es).length cut).1 = (writesT st es).length) :
    WholeR cls (storeT cls st es r cut ks) r es ∧ heldT st es cut h = some es := by
  have hst := ordersW ho
  have hb : (doneN (writesT st es).length cut).2 = false := by
    cases e : (doneN (writesT st es).length cut).2 with
    | false => rfl
    | true => have := doneN_lt e; omega
  have hh : heldT st es cut h = some es := by
    unfold heldT
    dsimp only
    rw [hb, if_neg (by decide), hw, List.take_length, held_all es st h hst, held_whole ho hl]
  have hr2 := hr.store (cut := cut) hn hst ht
  rw [hh] at hr2
  refine ⟨⟨hr2.pap, fun p hp => ?_⟩, hh⟩
  have h1 := ht _ _ (layT_mem hp)
  have hag := aget_of_mem (layT_nodup es) hp
  have hc : contO es p.1 = p.2 := by unfold contO; rw [hag]; rfl
  obtain ⟨s, s1, s2⟩ := hr.sm p.1 h1.2.1
  obtain ⟨q1, q2⟩ := sim_store (cls := cls) (cut := cut) hn hst ht h1.2.1 s2
  have hcut : cutF st es p.1 cut = none := by
    unfold cutF
    dsimp only
    rw [hw, List.take_length, prj_all hn hst ht, if_neg (Nat.lt_irrefl _)]
  rw [hcut, hc] at q1
  have := q1.q
  rw [small_whole ho (by omega)] at this
  exact cell_file (n := n) (cls := cls) this.symm h1.2.2.1
end Pl

set_option maxHeartbeats 1000000
/-! all small states, walked in rows -/
namespace Pl
open PySem L2 K79
abbrev Ef := Option Int × Option Int
def efPut (c : Int) (e : Ef) (w : Str) : Ef := if w = "files" then (e.1, some c) else if w = "paper" then (some c, e.2) else (some (-3), e.2)
def efTear (e : Ef) (w : Option Str) : Ef := if w = some ("files" : Str) then (e.1, some (-2)) else (some (-2), e.2)
def eff (st : List Str) (sm : Sm) : Ef :=
  let e1 := ((smW st sm.1).take (doneN (smW st sm.1).length sm.2).1).foldl (efPut sm.1) (none, none)
  if (doneN (smW st sm.1).length sm.2).2 = true then efTear e1 (smW st sm.1)[(doneN (smW st sm.1).length sm.2).1]? else e1
def aft (s : S2) (e : Ef) : S2 := (e.1.getD s.1, e.2.getD s.2)
theorem aft_put (c : Int) (s : S2) (e : Ef) (w : Str) : aft s (efPut c e w) = smPut c (aft s e) w := by
  unfold efPut smPut aft
  split
  · rfl
  · split <;> rfl
theorem aft_fold (c : Int) (s : S2) : ∀ (ws : List Str) (e : Ef), aft s (ws.foldl (efPut c) e) = ws.foldl (smPut c) (aft s e)
  | [], _ => rfl
  | w :: ws, e => by rw [List.foldl_cons, List.foldl_cons, aft_fold c s ws, aft_put]
theorem step_eff (st : List Str) (s : S2) (sm : Sm) : smStep st s sm = aft s (eff st sm) := by
  unfold smStep eff
  dsimp only
  have h := aft_fold sm.1 s ((smW st sm.1).take (doneN (smW st sm.1).length sm.2).1) (none, none)
  have e0 : aft s (none, none) = s := rfl
  rw [e0] at h
  split
  · rw [← h]
    unfold smTear efTear aft
    split <;> rfl
  · exact h.symm
def S0 : S2 := (-3, -3)
theorem two_steps {n : Nat} {st : List Str} {s : S2} (h : RchS n st s) : s = S0 ∨ (∃ a ∈ smAll n st, s = smStep st S0 a) ∨ ∃ a ∈ smAll n st, ∃ b ∈ smAll n st, s = smStep st (smStep st S0 a) b := by
  induction h with
  | start => exact .inl rfl
  | @step s c _ hc ih =>
    rcases ih with rfl | ⟨a, ha, rfl⟩ | ⟨a, ha, b, hb, rfl⟩
    · exact .inr (.inl ⟨c, hc, rfl⟩)
    · exact .inr (.inr ⟨a, ha, c, hc, rfl⟩)
    · have one : ∀ x ∈ smAll n st, smStep st (smStep st (smStep st S0 a) b) c = smStep st S0 x → smStep st (smStep st (smStep st S0 a) b) c = S0 ∨ (∃ a' ∈ smAll n st, smStep st (smStep st (smStep st S0 a) b) c = smStep st S0 a') ∨ ∃ a' ∈ smAll n st, ∃ b' ∈ smAll n st, smStep st (smStep st (smStep st S0 a) b) c = smStep st (smStep st S0 a') b' := fun x hx e => .inr (.inl ⟨x, hx, e⟩)
      have two : ∀ x ∈ smAll n st, ∀ y ∈ smAll n st, smStep st (smStep st (smStep st S0 a) b) c = smStep st (smStep st S0 x) y → smStep st (smStep st (smStep st S0 a) b) c = S0 ∨ (∃ a' ∈ smAll n st, smStep st (smStep st (smStep st S0 a) b) c = smStep st S0 a') ∨ ∃ a' ∈ smAll n st, ∃ b' ∈ smAll n st, smStep st (smStep st (smStep st S0 a) b) c = smStep st (smStep st S0 a') b' := fun x hx y hy e => .inr (.inr ⟨x, hx, y, hy, e⟩)
      simp only [step_eff] at one two ⊢
      cases hc1 : (eff st c).1 with
      | some p =>
        cases hc2 : (eff st c).2 with
        | some q => exact one c hc (by simp [aft, hc1, hc2])
        | none =>
          cases hb2 : (eff st b).2 with
          | some q => exact two b hb c hc (by simp [aft, hc1, hc2, hb2])
          | none => exact two a ha c hc (by simp [aft, hc1, hc2, hb2])
      | none =>
        cases hc2 : (eff st c).2 with
        | some q =>
          cases hb1 : (eff st b).1 with
          | some p => exact two b hb c hc (by simp [aft, hc1, hc2, hb1])
          | none => exact two a ha c hc (by simp [aft, hc1, hc2, hb1])
        | none => exact two a ha b hb (by simp [aft, hc1, hc2])
/-! all states lie in a grid -/
def gridL (n : Nat) : List S2 := ((List.range (n + 3)).map fun i => ((i : Nat) : Int) - 3).flatMap fun p => ((List.range (n + 3)).map fun i => ((i : Nat) : Int) - 3).map fun q => (p, q)
def GrS (n : Nat) (s : S2) : Prop := (-3 ≤ s.1 ∧ s.1 < n) ∧ -3 ≤ s.2 ∧ s.2 < n
theorem grid_mem {n : Nat} {s : S2} (h : GrS n s) : s ∈ gridL n := by
  unfold gridL
  obtain ⟨⟨a, b⟩, c, d⟩ := h
  refine List.mem_flatMap.mpr ⟨s.1, List.mem_map.mpr ⟨(s.1 + 3).toNat, List.mem_range.mpr (by omega), by omega⟩, List.mem_map.mpr ⟨s.2, List.mem_map.mpr ⟨(s.2 + 3).toNat, List.mem_range.mpr (by omega), by omega⟩, rfl⟩⟩
theorem grid_len (n : Nat) : (gridL n).length = (n + 3) * (n + 3) := by
  unfold gridL
  have key : ∀ (l : List Int) (m : List Int), (l.flatMap fun p => m.map fun q => ((p, q) : S2)).length = l.length * m.length := fun l m => by
    induction l with
    | nil => simp
    | cons x l ih => rw [List.flatMap_cons, List.length_append, ih, List.length_map, List.length_cons, Nat.succ_mul]; omega
  rw [key]
  simp
theorem step_grid {n : Nat} {st : List Str} {s : S2} {sm : Sm} (h : GrS n s) (hm : sm ∈ smAll n st) : GrS n (smStep st s sm) := by
  have hc := (smAll_mem.mp hm).1
  have put : ∀ (s : S2) (w : Str), GrS n s → GrS n (smPut sm.1 s w) := fun s w ⟨⟨a, b⟩, c, d⟩ => by
    unfold smPut GrS
    split
    · exact ⟨⟨a, b⟩, by dsimp only; omega, by dsimp only; omega⟩
    · split
      · exact ⟨⟨by dsimp only; omega, by dsimp only; omega⟩, c, d⟩
      · exact ⟨⟨by dsimp only; omega, by dsimp only; omega⟩, c, d⟩
  have puts : ∀ (ws : List Str) (s : S2), GrS n s → GrS n (ws.foldl (smPut sm.1) s) := fun ws => by
    induction ws with
    | nil => exact fun s h => h
    | cons w ws ih => exact fun s h => ih _ (put s w h)
  have h1 := puts ((smW st sm.1).take (doneN (smW st sm.1).length sm.2).1) s h
  unfold smStep
  dsimp only
  split
  · obtain ⟨⟨a, b⟩, c, d⟩ := h1
    unfold smTear GrS
    split
    · exact ⟨⟨a, b⟩, by dsimp only; omega, by dsimp only; omega⟩
    · exact ⟨⟨by dsimp only; omega, by dsimp only; omega⟩, c, d⟩
  · exact h1
theorem rch_grid {n : Nat} {st : List Str} {s : S2} (h : RchS n st s) : GrS n s := by
  induction h with
  | start => exact ⟨⟨by decide, by show (-3 : Int) < n; omega⟩, by decide, by show (-3 : Int) < n; omega⟩
  | step _ hm ih => exact step_grid ih hm
theorem nd_len' {α : Type} [DecidableEq α] : ∀ {l m : List α}, l.Nodup → (∀ x ∈ l, x ∈ m) → l.length ≤ m.length
  | [], _, _, _ => Nat.zero_le _
  | x :: l, m, nd, h => by
    rw [List.nodup_cons] at nd
    have hx := h x List.mem_cons_self
    have := nd_len' (m := m.erase x) nd.2 fun y hy => (List.mem_erase_of_ne (fun e => nd.1 (by rw [← e]; exact hy))).mpr (h y (List.mem_cons_of_mem _ hy))
    rw [List.length_erase_of_mem hx] at this
    have : 0 < m.length := List.length_pos_of_mem hx
    simp only [List.length_cons]
    omega
theorem rch_len {n : Nat} {st : List Str} (hn : n ≤ 4) {F : List S2} (nd : F.Nodup) (h : ∀ s ∈ F, RchS n st s) : F.length ≤ 49 := by
  have h1 := nd_len' nd fun s hs => grid_mem (rch_grid (h s hs))
  rw [grid_len] at h1
  have : (n + 3) * (n + 3) ≤ 7 * 7 := Nat.mul_le_mul (by omega) (by omega)
  omega
theorem rch_closed {n : Nat} {st : List Str} {F : List S2} (h0 : S0 ∈ F) (h1 : ∀ s ∈ F, ∀ sm ∈ smAll n st, smStep st s sm ∈ F) {s : S2} (h : RchS n st s) : s ∈ F := by
  induction h with
  | start => exact h0
  | step _ hm ih => exact h1 _ ih _ hm
/-! the program's walk: each state with the first row of stores that leads to it -/
abbrev Row := S2 × List Sm
structure BD (n : Nat) (st : List Str) (cls : List Int) (D : List Row) (place : Nat) : Prop where
  nd : (D.map (·.1)).Nodup
  st0 : D[0]? = some (S0, [])
  row : ∀ d ∈ D, d.2.foldl (smStep st) S0 = d.1 ∧ ∀ sm ∈ d.2, sm ∈ smAll n st
  ok : ∀ d ∈ D, wrongS cls d.1 = false
  le : place ≤ D.length
  ex : ∀ (i : Nat) (d : Row), i < place → D[i]? = some d → ∀ sm ∈ smAll n st, smStep st d.1 sm ∈ D.map (·.1)
  len2 : ∀ d ∈ D, d.2.length ≤ 2
  srt : ∀ (i j : Nat) (d e : Row), i ≤ j → D[i]? = some d → D[j]? = some e → d.2.length ≤ e.2.length
  top : ∀ (d e : Row), D[place]? = some d → e ∈ D → e.2.length ≤ d.2.length + 1
  one : ∀ d ∈ D, (∃ a ∈ smAll n st, d.1 = smStep st S0 a) → d.2.length ≤ 1
theorem BD.rch {n : Nat} {st : List Str} {cls : List Int} {D : List Row} {place : Nat} (h : BD n st cls D place) : ∀ d ∈ D, RchS n st d.1 := fun d hd => by
  obtain ⟨e, hm⟩ := h.row d hd
  rw [← e]
  have key : ∀ (l : List Sm) (s : S2), RchS n st s → (∀ sm ∈ l, sm ∈ smAll n st) → RchS n st (l.foldl (smStep st) s) := fun l => by
    induction l with
    | nil => exact fun s hs _ => hs
    | cons x l ih => exact fun s hs hl => ih _ (.step hs (hl x List.mem_cons_self)) fun y hy => hl y (List.mem_cons_of_mem _ hy)
  exact key _ _ .start hm
theorem BD.init (n : Nat) (st : List Str) (cls : List Int) : BD n st cls [(S0, [])] 0 := by
  refine ⟨by simp, rfl, fun d hd => ?_, fun d hd => ?_, Nat.zero_le _, (fun i d z => absurd z (Nat.not_lt_zero _)), fun d hd => ?_, fun i j d e hij hi hj => ?_, fun d e hd he => ?_, fun d hd _ => ?_⟩
  · rw [List.mem_singleton] at hd; subst hd; exact ⟨rfl, fun _ z => nomatch z⟩
  · rw [List.mem_singleton] at hd; subst hd; rfl
  · rw [List.mem_singleton] at hd; subst hd; decide
  · have := (List.getElem?_eq_some_iff.mp hi).1
    have := List.mem_of_getElem? hi
    rw [List.mem_singleton] at this; subst this; exact Nat.zero_le _
  · rw [List.mem_singleton] at he; subst he; exact Nat.zero_le _
  · rw [List.mem_singleton] at hd; subst hd; decide
/-- the state at the place is opened up to some stores -/
structure Opening (n : Nat) (st : List Str) (D : List Row) (place : Nat) (d : Row) (don : List Sm) : Prop where
  at_ : D[place]? = some d
  ex : ∀ sm ∈ don, smStep st d.1 sm ∈ D.map (·.1)
theorem BD.skip {n : Nat} {st : List Str} {D : List Row} {place : Nat} {d : Row} {don : List Sm} {sm : Sm} (o : Opening n st D place d don) (hx : smStep st d.1 sm ∈ D.map (·.1)) : Opening n st D place d (don ++ [sm]) :=
  ⟨o.at_, fun x hx' => by
    rcases List.mem_append.mp hx' with z | z
    · exact o.ex x z
    · rw [List.mem_singleton] at z; subst z; exact hx⟩
theorem BD.len_le {n : Nat} {st : List Str} {cls : List Int} {D : List Row} {place : Nat} {d : Row} {sm : Sm} (h : BD n st cls D place) (hd : D[place]? = some d) (hm : sm ∈ smAll n st) (hx : smStep st d.1 sm ∉ D.map (·.1)) : d.2.length ≤ 1 := by
  have hdm := List.mem_of_getElem? hd
  have h2 := h.len2 d hdm
  refine Classical.byContradiction fun z => ?_
  have hl : d.2.length = 2 := by omega
  have hp0 : 0 < place := by
    rcases Nat.eq_zero_or_pos place with e | e
    · rw [e, h.st0] at hd
      rw [← Option.some.inj hd] at hl
      cases hl
    · exact e
  have early : ∀ a ∈ smAll n st, ∃ i e, i < place ∧ D[i]? = some e ∧ e.1 = smStep st S0 a := fun a ha => by
    obtain ⟨e, he, ee⟩ := List.mem_map.mp (h.ex 0 _ hp0 h.st0 a ha)
    obtain ⟨i, hi, he'⟩ := List.getElem_of_mem he
    have hi' : D[i]? = some e := by rw [List.getElem?_eq_getElem hi, he']
    refine ⟨i, e, ?_, hi', ee⟩
    have h1 := h.one e he ⟨a, ha, ee⟩
    refine Classical.byContradiction fun z => ?_
    have := h.srt place i d e (by omega) hd hi'
    omega
  have hr : RchS n st (smStep st d.1 sm) := .step (h.rch d hdm) hm
  rcases two_steps hr with e | ⟨a, ha, e⟩ | ⟨a, ha, b, hb, e⟩
  · exact hx (by rw [e]; exact List.mem_map.mpr ⟨_, List.mem_of_getElem? h.st0, rfl⟩)
  · obtain ⟨i, e', _, hi, ee⟩ := early a ha
    exact hx (by rw [e, ← ee]; exact List.mem_map.mpr ⟨_, List.mem_of_getElem? hi, rfl⟩)
  · obtain ⟨i, e', hi, hie, ee⟩ := early a ha
    have := h.ex i e' hi hie b hb
    rw [ee] at this
    exact hx (by rw [e]; exact this)
theorem BD.add {n : Nat} {st : List Str} {cls : List Int} {D : List Row} {place : Nat} {d : Row} {don : List Sm} {sm : Sm} (h : BD n st cls D place) (o : Opening n st D place d don) (hm : sm ∈ smAll n st) (hx : smStep st d.1 sm ∉ D.map (·.1)) (hw : wrongS cls (smStep st d.1 sm) = false) :
    BD n st cls (D ++ [(smStep st d.1 sm, d.2 ++ [sm])]) place ∧ Opening n st (D ++ [(smStep st d.1 sm, d.2 ++ [sm])]) place d (don ++ [sm]) := by
  have hd := o.at_
  have hdm := List.mem_of_getElem? hd
  have hpl := (List.getElem?_eq_some_iff.mp hd).1
  have hl1 := h.len_le hd hm hx
  have old : ∀ {i e}, i < D.length → ((D ++ [(smStep st d.1 sm, d.2 ++ [sm])])[i]? = some e ↔ D[i]? = some e) := fun {i e} hi => by rw [List.getElem?_append_left hi]
  have mem : ∀ {e}, e ∈ D ++ [(smStep st d.1 sm, d.2 ++ [sm])] ↔ e ∈ D ∨ e = (smStep st d.1 sm, d.2 ++ [sm]) := fun {e} => by rw [List.mem_append, List.mem_singleton]
  have mp : ∀ {x}, x ∈ D.map (·.1) → x ∈ (D ++ [(smStep st d.1 sm, d.2 ++ [sm])]).map (·.1) := fun {x} hx => by rw [List.map_append]; exact List.mem_append_left _ hx
  have cases_ : ∀ {i e}, (D ++ [(smStep st d.1 sm, d.2 ++ [sm])])[i]? = some e → (i < D.length ∧ D[i]? = some e) ∨ (i = D.length ∧ e = (smStep st d.1 sm, d.2 ++ [sm])) := fun {i e} he => by
    by_cases hi : i < D.length
    · exact .inl ⟨hi, (old hi).mp he⟩
    · have := (List.getElem?_eq_some_iff.mp he).1
      rw [List.length_append, List.length_singleton] at this
      have hi : i = D.length := by omega
      subst hi
      rw [List.getElem?_append_right (Nat.le_refl _), Nat.sub_self] at he
      exact .inr ⟨rfl, (Option.some.inj he).symm⟩
  have hlen : (d.2 ++ [sm]).length = d.2.length + 1 := by simp
  refine ⟨⟨?_, ?_, fun e he => ?_, fun e he => ?_, ?_, fun i e hi he x hxm => ?_, fun e he => ?_, fun i j e f hij hi hj => ?_, fun e f he hf => ?_, fun e he hone => ?_⟩, ⟨(old hpl).mpr hd, fun x hxm => ?_⟩⟩
  · rw [List.map_append, List.nodup_append]
    exact ⟨h.nd, by simp, fun a ha b hb e => by rw [List.map_singleton, List.mem_singleton] at hb; rw [hb] at e; have e : a = smStep st d.1 sm := e; exact hx (by rw [← e]; exact ha)⟩
  · exact (old (by omega)).mpr h.st0
  · rcases mem.mp he with z | rfl
    · exact h.row e z
    · obtain ⟨r1, r2⟩ := h.row d hdm
      refine ⟨by dsimp only; rw [List.foldl_append, r1]; rfl, fun x hxm => ?_⟩
      rcases List.mem_append.mp hxm with z | z
      · exact r2 x z
      · rw [List.mem_singleton] at z; subst z; exact hm
  · rcases mem.mp he with z | rfl
    · exact h.ok e z
    · exact hw
  · rw [List.length_append]; have := h.le; omega
  · exact mp (h.ex i e hi ((old (by omega)).mp he) x hxm)
  · rcases mem.mp he with z | rfl
    · exact h.len2 e z
    · show (d.2 ++ [sm]).length ≤ 2
      omega
  · rcases cases_ hj with ⟨hj1, hj2⟩ | ⟨rfl, rfl⟩
    · exact h.srt i j e f hij ((old (by omega)).mp hi) hj2
    · show e.2.length ≤ (d.2 ++ [sm]).length
      rw [hlen]
      rcases cases_ hi with ⟨hi1, hi2⟩ | ⟨_, rfl⟩
      · exact h.top d e hd (List.mem_of_getElem? hi2)
      · rw [hlen]; exact Nat.le_refl _
  · have he := (old hpl).mp he
    rw [hd] at he
    have he := Option.some.inj he
    subst he
    rcases mem.mp hf with z | rfl
    · exact h.top d f hd z
    · rw [hlen]; exact Nat.le_refl _
  · rcases mem.mp he with z | rfl
    · exact h.one e z hone
    · show (d.2 ++ [sm]).length ≤ 1
      rw [hlen]
      rcases Nat.eq_zero_or_pos place with e | e
      · rw [e, h.st0] at hd
        rw [← Option.some.inj hd]
        exact Nat.le_refl _
      · obtain ⟨a, ha, ee⟩ := hone
        have := h.ex 0 _ e h.st0 a ha
        exact absurd (by rw [show smStep st d.1 sm = _ from ee]; exact this) hx
  · rcases List.mem_append.mp hxm with z | z
    · exact mp (o.ex x z)
    · rw [List.mem_singleton] at z; subst z
      rw [List.map_append]
      exact List.mem_append_right _ (by simp)
theorem BD.next {n : Nat} {st : List Str} {cls : List Int} {D : List Row} {place : Nat} {d : Row} (h : BD n st cls D place) (o : Opening n st D place d (smAll n st)) : BD n st cls D (place + 1) := by
  have hpl := (List.getElem?_eq_some_iff.mp o.at_).1
  refine ⟨h.nd, h.st0, h.row, h.ok, hpl, fun i e hi he sm hm => ?_, h.len2, h.srt, fun e f he hf => ?_, h.one⟩
  · rcases Nat.lt_succ_iff_lt_or_eq.mp hi with z | z
    · exact h.ex i e z he sm hm
    · subst z
      rw [o.at_] at he
      rw [← Option.some.inj he]
      exact o.ex sm hm
  · have h1 := h.top d f o.at_ hf
    have h2 := h.srt place (place + 1) d e (Nat.le_succ _) o.at_ he
    omega
/-- at the end all states are there, none of them wrong -/
theorem BD.safe {n : Nat} {st : List Str} {cls : List Int} {D : List Row} (h : BD n st cls D D.length) : ∀ s, RchS n st s → wrongS cls s = false := fun s hs => by
  have hin : s ∈ D.map (·.1) := rch_closed (List.mem_map.mpr ⟨_, List.mem_of_getElem? h.st0, rfl⟩) (fun x hx sm hm => by
    obtain ⟨d, hd, rfl⟩ := List.mem_map.mp hx
    obtain ⟨i, hi, e⟩ := List.getElem_of_mem hd
    exact h.ex i d hi (by rw [List.getElem?_eq_getElem hi, e]) sm hm) hs
  obtain ⟨d, hd, rfl⟩ := List.mem_map.mp hin
  exact h.ok d hd
/-- what is told of a wrong state -/
def BadRow (n : Nat) (st : List Str) (cls : List Int) (row : List Sm) : Prop := row.length ≤ 3 ∧ (∀ sm ∈ row, sm ∈ smAll n st) ∧ wrongS cls (row.foldl (smStep st) S0) = true
theorem BD.bad {n : Nat} {st : List Str} {cls : List Int} {D : List Row} {place : Nat} {d : Row} {don : List Sm} {sm : Sm} (h : BD n st cls D place) (o : Opening n st D place d don) (hm : sm ∈ smAll n st) (hx : smStep st d.1 sm ∉ D.map (·.1)) (hw : wrongS cls (smStep st d.1 sm) = true) : BadRow n st cls (d.2 ++ [sm]) := by
  have hdm := List.mem_of_getElem? o.at_
  have hl := h.len_le o.at_ hm hx
  obtain ⟨r1, r2⟩ := h.row d hdm
  refine ⟨by simp; omega, fun x hxm => ?_, by rw [List.foldl_append, r1]; exact hw⟩
  rcases List.mem_append.mp hxm with z | z
  · exact r2 x z
  · rw [List.mem_singleton] at z; subst z; exact hm
theorem BadRow.not_safe {n : Nat} {st : List Str} {cls : List Int} {row : List Sm} (h : BadRow n st cls row) : ¬ ∀ s, RchS n st s → wrongS cls s = false := fun z => by
  have key : ∀ (l : List Sm) (s : S2), RchS n st s → (∀ sm ∈ l, sm ∈ smAll n st) → RchS n st (l.foldl (smStep st) s) := fun l => by
    induction l with
    | nil => exact fun s hs _ => hs
    | cons x l ih => exact fun s hs hl => ih _ (.step hs (hl x List.mem_cons_self)) fun y hy => hl y (List.mem_cons_of_mem _ hy)
  have := z _ (key row S0 .start h.2.1)
  rw [h.2.2] at this
  cases this
end Pl

set_option maxHeartbeats 1000000
/-! the program's table of cuts -/
namespace Pl
open PySem L2 K79
def B_small_writes : S := (.seq (.ret (.blt .tuple (.cons (.comp [("word", 2)] (.one 2) (.iSeq (.var 0)) (.ors (.cons (.cmp .ne (.var 2) (.str "files")) (.cons (.cmp .ne (.var 1) (.neg (.int 1))) .nil))) (.var 2)) .nil))) .skip)
def B_small_step (writes_done : Nat) (small_writes : Nat) : S := (.seq (.asgT [3, 4] (.var 1)) (.seq (.asgT [5, 6] (.var 2)) (.seq (.asg 7 (.call small_writes (.cons (.var 0) (.cons (.var 5) .nil)))) (.seq (.asgT [8, 9] (.call writes_done (.cons (.blt .len (.cons (.var 7) .nil)) (.cons (.var 6) .nil)))) (.seq (.for_ (.one 10) (.iSeq (.slice (.var 7) .nil (.var 8))) (.seq (.ifs (.cmp .eq (.var 10) (.str "files")) (.seq (.asg 4 (.var 5)) .skip) (.seq (.ifs (.cmp .eq (.var 10) (.str "paper")) (.seq (.asg 3 (.var 5)) .skip) (.seq (.asg 3 (.gint "EMPTY" (-3))) .skip)) .skip)) .skip)) (.seq (.ifs (.ands (.cons (.var 9) (.cons (.cmp .eq (.ix (.var 7) (.var 8)) (.str "files")) .nil))) (.seq (.asg 4 (.gint "TORN" (-2))) .skip) (.seq (.ifs (.var 9) (.seq (.asg 3 (.gint "TORN" (-2))) .skip) .skip) .skip)) (.seq (.ret (.tup (.cons (.var 3) (.cons (.var 4) .nil)))) .skip)))))))
def B_is_wrong : S := (.seq (.asgT [2, 3] (.var 1)) (.seq (.ifs (.ors (.cons (.cmp .lt (.var 2) (.int 0)) (.cons (.cmp .eq (.var 2) (.var 3)) .nil))) (.seq (.ret (.bl false)) .skip) .skip) (.seq (.ifs (.cmp .eq (.blt .len (.cons (.var 0) .nil)) (.int 0)) (.seq (.ret (.bl true)) .skip) .skip) (.seq (.ret (.ands (.cons (.cmp .ge (.var 3) (.int 0)) (.cons (.cmp .eq (.ix (.var 0) (.bin .add (.var 3) (.int 1))) (.ix (.var 0) (.bin .add (.var 2) (.int 1)))) .nil)))) .skip))))
def B_cuts_of : S := (.seq (.asg 1 (.lst .nil)) (.seq (.for_ (.one 2) (.iRange (.var 0)) (.seq (.expr (.mth .append (.var 1) (.cons (.tup (.cons (.var 2) (.cons (.bl false) .nil))) .nil))) (.seq (.expr (.mth .append (.var 1) (.cons (.tup (.cons (.var 2) (.cons (.bl true) .nil))) .nil))) .skip))) (.seq (.expr (.mth .append (.var 1) (.cons .non .nil))) (.seq (.ret (.blt .tuple (.cons (.var 1) .nil))) .skip))))
def B_small_stores (cuts_of : Nat) (small_writes : Nat) : S := (.seq (.asg 2 (.lst .nil)) (.seq (.for_ (.one 3) (.iRange2 (.neg (.int 1)) (.var 0)) (.seq (.for_ (.one 4) (.iSeq (.call cuts_of (.cons (.blt .len (.cons (.call small_writes (.cons (.var 1) (.cons (.var 3) .nil))) .nil)) .nil))) (.seq (.expr (.mth .append (.var 2) (.cons (.tup (.cons (.var 3) (.cons (.var 4) .nil))) .nil))) .skip)) .skip)) (.seq (.ret (.blt .tuple (.cons (.var 2) .nil))) .skip)))
def encS2 (s : S2) : U := .tup [.int s.1, .int s.2]
def encSm (sm : Sm) : U := .tup [.int sm.1, cutV sm.2]
theorem encS2_inj (a b : S2) (h : encS2 a = encS2 b) : a = b := by
  unfold encS2 at h
  simp only [U.tup.injEq, List.cons.injEq, U.int.injEq, and_true] at h
  exact Prod.ext h.1 h.2
section
variable {C : CE} {nx bk ct : SU → Hm → Prop} {rt : QU} {M : Hm}
theorem small_writes_ok {st : List Str} {c : Int} (hst : st.length ≤ 3) (hq : ∀ M', Sub M M' → rt (.tup ((smW st c).map U.str)) M') : wS C B_small_writes ⟨nx, rt, bk, ct⟩ (startU 3 [.dtp (st.map U.str), .int c]) M := by
  have hlim : LIM = 100000 := rfl
  unfold B_small_writes
  (repeat decreasing_trivial_pre_omega)
  refine compL_by (enc := U.str) (fun don rest acc M' => M' = M ∧ acc = (smW don c).map U.str) st ⟨rfl, rfl⟩ ?_ ?_
  · intro don w rest acc M1 k e ⟨e1, e2⟩ hk
    subst e1 e2
    have hdl : don.length + rest.length + 1 = st.length := by rw [← e]; simp; omega
    have hsl : (smW don c).length ≤ don.length := List.length_filter_le _ _
    have yes : (decide (w ≠ "files") || decide (c ≠ -1)) = true → smW (don ++ [w]) c = smW don c ++ [w] := fun h => by unfold smW; rw [List.filter_append, List.filter_cons, if_pos h]; rfl
    have no : ¬ ((decide (w ≠ "files") || decide (c ≠ -1)) = true) → smW (don ++ [w]) c = smW don c := fun h => by unfold smW; rw [List.filter_append, List.filter_cons, if_neg h]; simp
    (repeat decreasing_trivial_pre_omega)
    by_cases h1 : w = "files"
    · refine i_ift (decide_eq_true h1) ?_
      (repeat decreasing_trivial_pre_omega)
      by_cases h2 : c = -1
      · refine i_ift (decide_eq_true h2) ?_
        refine hk _ _ trivial (fun z => by cases z) ⟨rfl, ?_⟩
        rw [no (by simp [h1, h2])]
        simp
      · refine i_iff (decide_eq_false h2) ?_
        (repeat decreasing_trivial_pre_omega)
        refine hk _ _ trivial (fun _ => by rw [List.length_map]; omega) ⟨rfl, ?_⟩
        rw [yes (by simp [h2])]
        simp
    · refine i_iff (decide_eq_false h1) ?_
      (repeat decreasing_trivial_pre_omega)
      refine hk _ _ trivial (fun _ => by rw [List.length_map]; omega) ⟨rfl, ?_⟩
      rw [yes (by simp [h1])]
      simp
  · intro acc M1 ⟨e1, e2⟩
    subst e1 e2
    intro q hq0
    (repeat decreasing_trivial_pre_omega)
    exact hq _ (sub_new (Sub.refl _) hq0)
def SmWC (C : CE) (f : Nat) : Prop := ∀ (st : List Str) (c : Int), st.length ≤ 3 → Ret C f [.dtp (st.map U.str), .int c] (.tup ((smW st c).map U.str))
theorem smW_len (st : List Str) (c : Int) : (smW st c).length ≤ st.length := List.length_filter_le _ _
theorem small_step_ok {fd fw : Nat} (hd : DoneC C fd) (hw : SmWC C fw) {st : List Str} {s : S2} {sm : Sm} (hst : st.length ≤ 3) (hq : ∀ M', Sub M M' → rt (encS2 (smStep st s sm)) M') :
    wS C (B_small_step fd fw) ⟨nx, rt, bk, ct⟩ (startU 11 [.dtp (st.map U.str), encS2 s, encSm sm]) M := by
  have hlim : LIM = 100000 := rfl
  have hwl := smW_len st sm.1
  unfold B_small_step encS2 encSm
  (repeat decreasing_trivial_pre_omega)
  refine hw st sm.1 hst M _ fun M1 s1 => ?_
  (repeat decreasing_trivial_pre_omega)
  rw [List.length_map]
  refine hd M1 _ sm.2 _ ?_
  have hlt := fun z => doneN_lt (m := (smW st sm.1).length) (cut := sm.2) z
  have hle := doneN_le (smW st sm.1).length sm.2
  have eS : smStep st s sm = if (doneN (smW st sm.1).length sm.2).2 = true then smTear (((smW st sm.1).take (doneN (smW st sm.1).length sm.2).1).foldl (smPut sm.1) s) (smW st sm.1)[(doneN (smW st sm.1).length sm.2).1]? else ((smW st sm.1).take (doneN (smW st sm.1).length sm.2).1).foldl (smPut sm.1) s := rfl
  rw [eS] at hq
  generalize doneN (smW st sm.1).length sm.2 = D at *
  obtain ⟨m, b⟩ := D
  dsimp only at hlt hle hq ⊢
  (repeat decreasing_trivial_pre_omega)
  rw [cutU_take, ← List.map_take]
  (repeat decreasing_trivial_pre_omega)
  refine forL_by (enc := U.str) (fun don rest σ M' => M' = M1 ∧ ∃ u10, σ = [some (.dtp (st.map U.str)), some (.tup [.int s.1, .int s.2]), some (.tup [.int sm.1, cutV sm.2]), some (.int (don.foldl (smPut sm.1) s).1), some (.int (don.foldl (smPut sm.1) s).2), some (.int sm.1), some (cutV sm.2), some (.tup ((smW st sm.1).map U.str)), some (.int m), some (.bl b), u10]) ((smW st sm.1).take m) ⟨rfl, _, rfl⟩ ?_ ?_
  · intro don w rest σ M2 k e ⟨e1, u10, e2⟩ hk
    subst e1 e2
    have hf : (don ++ [w]).foldl (smPut sm.1) s = smPut sm.1 (don.foldl (smPut sm.1) s) w := by rw [List.foldl_append]; rfl
    generalize don.foldl (smPut sm.1) s = t at *
    (repeat decreasing_trivial_pre_omega)
    by_cases h1 : w = "files"
    · refine i_ift (decide_eq_true h1) ?_
      (repeat decreasing_trivial_pre_omega)
      refine hk _ _ trivial ⟨rfl, some (.str w), ?_⟩
      rw [hf]
      unfold smPut
      rw [if_pos h1]
      rfl
    · refine i_iff (decide_eq_false h1) ?_
      (repeat decreasing_trivial_pre_omega)
      by_cases h2 : w = "paper"
      · refine i_ift (decide_eq_true h2) ?_
        (repeat decreasing_trivial_pre_omega)
        refine hk _ _ trivial ⟨rfl, some (.str w), ?_⟩
        rw [hf]
        unfold smPut
        rw [if_neg h1, if_pos h2]
        rfl
      · refine i_iff (decide_eq_false h2) ?_
        (repeat decreasing_trivial_pre_omega)
        refine hk _ _ trivial ⟨rfl, some (.str w), ?_⟩
        rw [hf]
        unfold smPut
        rw [if_neg h1, if_neg h2]
        rfl
  · intro σ M2 ⟨e1, u10, e2⟩
    subst e1 e2
    generalize ((smW st sm.1).take m).foldl (smPut sm.1) s = t at *
    cases b with
    | false =>
      (repeat decreasing_trivial_pre_omega)
      exact hq _ s1
    | true =>
      have hl := hlt rfl
      obtain ⟨w, hwg⟩ : ∃ w, (smW st sm.1)[m]? = some w := ⟨_, List.getElem?_eq_getElem hl⟩
      rw [if_pos rfl, hwg] at hq
      (repeat decreasing_trivial_pre_omega)
      refine x_tup (v := .str w) (by rw [atI_nat (by rw [List.length_map]; exact hl), List.getElem_map, (List.getElem?_eq_some_iff.mp hwg).2]) ?_
      (repeat decreasing_trivial_pre_omega)
      by_cases h1 : w = "files"
      · refine i_ift (decide_eq_true h1) ?_
        (repeat decreasing_trivial_pre_omega)
        unfold smTear at hq
        rw [if_pos (by rw [h1])] at hq
        exact hq _ s1
      · refine i_iff (decide_eq_false h1) ?_
        (repeat decreasing_trivial_pre_omega)
        unfold smTear at hq
        rw [if_neg (fun z => h1 (Option.some.inj z))] at hq
        exact hq _ s1
def SmStepC (C : CE) (f : Nat) : Prop := ∀ (st : List Str) (s : S2) (sm : Sm), st.length ≤ 3 → Ret C f [.dtp (st.map U.str), encS2 s, encSm sm] (encS2 (smStep st s sm))
theorem is_wrong_ok {n : Nat} {cls : List Int} {s : S2} (hc : ClOk n cls) (hg : GrS n s) (hq : ∀ M', Sub M M' → rt (.bl (wrongS cls s)) M') : wS C B_is_wrong ⟨nx, rt, bk, ct⟩ (startU 4 [.tup (cls.map U.int), encS2 s]) M := by
  obtain ⟨⟨g1, g2⟩, g3, g4⟩ := hg
  obtain ⟨p, q⟩ := s
  dsimp only at g1 g2 g3 g4
  have yes : (0 ≤ p ∧ p ≠ q ∧ (cls = [] ∨ (0 ≤ q ∧ clAt cls q = clAt cls p))) → rt (.bl true) M := fun h => by
    have := hq M (Sub.refl _)
    unfold wrongS at this
    rwa [decide_eq_true h] at this
  have no : ¬ (0 ≤ p ∧ p ≠ q ∧ (cls = [] ∨ (0 ≤ q ∧ clAt cls q = clAt cls p))) → rt (.bl false) M := fun h => by
    have := hq M (Sub.refl _)
    unfold wrongS at this
    rwa [decide_eq_false h] at this
  unfold B_is_wrong encS2
  (repeat decreasing_trivial_pre_omega)
  by_cases h1 : p < 0
  · refine i_ift (decide_eq_true h1) ?_
    (repeat decreasing_trivial_pre_omega)
    exact no fun z => by omega
  refine i_iff (decide_eq_false h1) ?_
  (repeat decreasing_trivial_pre_omega)
  by_cases h2 : p = q
  · refine i_ift (decide_eq_true h2) ?_
    (repeat decreasing_trivial_pre_omega)
    exact no fun z => z.2.1 h2
  refine i_iff (decide_eq_false h2) ?_
  (repeat decreasing_trivial_pre_omega)
  by_cases h3 : cls = []
  · refine i_ift (decide_eq_true (by rw [h3]; rfl)) ?_
    (repeat decreasing_trivial_pre_omega)
    exact yes ⟨by omega, h2, .inl h3⟩
  refine i_iff (decide_eq_false (fun z => h3 (by
    have : (cls.map U.int).length = 0 := by omega
    rw [List.length_map] at this
    exact List.eq_nil_of_length_eq_zero this))) ?_
  (repeat decreasing_trivial_pre_omega)
  by_cases h4 : 0 ≤ q
  · refine i_ift (decide_eq_true h4) ?_
    (repeat decreasing_trivial_pre_omega)
    refine x_tup (cl_ix hc h3 h4 g4) ?_
    (repeat decreasing_trivial_pre_omega)
    refine x_tup (cl_ix hc h3 (by omega) g2) ?_
    (repeat decreasing_trivial_pre_omega)
    by_cases h5 : clAt cls q = clAt cls p
    · rw [decide_eq_true h5]
      exact yes ⟨by omega, h2, .inr ⟨h4, h5⟩⟩
    · rw [decide_eq_false h5]
      exact no fun z => z.2.2.elim h3 fun z => h5 z.2
  · refine i_iff (decide_eq_false h4) ?_
    (repeat decreasing_trivial_pre_omega)
    exact no fun z => z.2.2.elim h3 fun z => h4 z.1
def WrongC (C : CE) (f : Nat) : Prop := ∀ (n : Nat) (cls : List Int) (s : S2), ClOk n cls → GrS n s → Ret C f [.tup (cls.map U.int), encS2 s] (.bl (wrongS cls s))
theorem cuts_ok {m : Nat} (hm : m ≤ 100) (hq : ∀ M', Sub M M' → rt (.tup ((smCuts m).map cutV)) M') : wS C B_cuts_of ⟨nx, rt, bk, ct⟩ (startU 3 [.int m]) M := by
  have hlim : LIM = 100000 := rfl
  unfold B_cuts_of
  (repeat decreasing_trivial_pre_omega)
  intro q hq0
  (repeat decreasing_trivial_pre_omega)
  refine ⟨by omega, by omega, ?_⟩
  refine forL_nat (fun i σ M' => (∃ u2, σ = [some (.int m), some (.ref q), u2]) ∧ M' = um M q (.lst (((List.range i).flatMap fun i => [some (i, false), some (i, true)] : List Cut).map cutV))) m ⟨⟨_, rfl⟩, rfl⟩ ?_ ?_
  · intro i σ M1 k hi ⟨⟨u2, e1⟩, e2⟩ hk
    subst e1 e2
    have hl : ((List.range i).flatMap fun i => [some (i, false), some (i, true)] : List Cut).length = 2 * i := by
      have : ∀ l : List Nat, (l.flatMap fun i => [some (i, false), some (i, true)] : List Cut).length = 2 * l.length := fun l => by
        induction l with
        | nil => rfl
        | cons x l ih => rw [List.flatMap_cons, List.length_append, ih]; simp; omega
      rw [this, List.length_range]
    (repeat decreasing_trivial_pre_omega)
    refine m_app um_same (by rw [List.length_map, hl]; omega) ?_
    (repeat decreasing_trivial_pre_omega)
    refine m_app um_same (by rw [List.length_append, List.length_map, hl]; simp; omega) ?_
    (repeat decreasing_trivial_pre_omega)
    refine hk _ _ trivial ⟨⟨_, rfl⟩, ?_⟩
    rw [um_um, um_um, List.range_succ, List.flatMap_append]
    simp [cutV]
  · intro σ M1 ⟨⟨u2, e1⟩, e2⟩
    subst e1 e2
    have hl : ((List.range m).flatMap fun i => [some (i, false), some (i, true)] : List Cut).length = 2 * m := by
      have : ∀ l : List Nat, (l.flatMap fun i => [some (i, false), some (i, true)] : List Cut).length = 2 * l.length := fun l => by
        induction l with
        | nil => rfl
        | cons x l ih => rw [List.flatMap_cons, List.length_append, ih]; simp; omega
      rw [this, List.length_range]
    (repeat decreasing_trivial_pre_omega)
    refine m_app um_same (by rw [List.length_map, hl]; omega) ?_
    (repeat decreasing_trivial_pre_omega)
    have key : (smCuts m).map cutV = ((List.range m).flatMap fun i => [some (i, false), some (i, true)] : List Cut).map cutV ++ [.non] := by unfold smCuts; rw [List.map_append]; rfl
    rw [← key]
    refine hq _ ?_
    rw [um_um]
    exact sub_um (Sub.refl M) hq0
def CutsC (C : CE) (f : Nat) : Prop := ∀ m : Nat, m ≤ 100 → Ret C f [.int m] (.tup ((smCuts m).map cutV))
theorem smCuts_len (m : Nat) : (smCuts m).length = 2 * m + 1 := by
  unfold smCuts
  have : ∀ l : List Nat, (l.flatMap fun i => [some (i, false), some (i, true)] : List Cut).length = 2 * l.length := fun l => by
    induction l with
    | nil => rfl
    | cons x l ih => rw [List.flatMap_cons, List.length_append, ih]; simp; omega
  rw [List.length_append, this, List.length_range]
  rfl
theorem rng_conts (n : Nat) : rngU (-1) n = (conts n).map U.int := by
  unfold rngU conts
  rw [show ((n : Int) - -1).toNat = n + 1 by omega, List.map_map]
  refine List.map_congr_left fun i _ => ?_
  show U.int (-1 + (i : Nat)) = U.int ((i : Nat) - 1)
  rw [show (-1 : Int) + (i : Nat) = (i : Nat) - 1 by omega]
theorem smAll_len {st : List Str} (hst : st.length ≤ 3) : ∀ l : List Int, (l.flatMap fun c => (smCuts (smW st c).length).map fun k => ((c, k) : Sm)).length ≤ 7 * l.length
  | [] => Nat.zero_le _
  | c :: l => by
    rw [List.flatMap_cons, List.length_append, List.length_map, smCuts_len, List.length_cons]
    have := smAll_len hst l
    have := smW_len st c
    omega
theorem small_stores_ok {fc fw : Nat} (hc : CutsC C fc) (hw : SmWC C fw) {n : Nat} {st : List Str} (hn : n ≤ 4) (hst : st.length ≤ 3) (hq : ∀ M', Sub M M' → rt (.tup ((smAll n st).map encSm)) M') :
    wS C (B_small_stores fc fw) ⟨nx, rt, bk, ct⟩ (startU 5 [.int n, .dtp (st.map U.str)]) M := by
  have hlim : LIM = 100000 := rfl
  unfold B_small_stores
  (repeat decreasing_trivial_pre_omega)
  intro q hq0
  (repeat decreasing_trivial_pre_omega)
  refine ⟨by omega, by omega, by omega, by omega, ?_⟩
  rw [rng_conts]
  have hcl : (conts n).length = n + 1 := by unfold conts; simp
  refine forL_by (enc := U.int) (fun don rest σ M' => (∃ u3 u4, σ = [some (.int n), some (.dtp (st.map U.str)), some (.ref q), u3, u4]) ∧ Sub M M' ∧ M' q = some (.lst ((don.flatMap fun c => (smCuts (smW st c).length).map fun k => ((c, k) : Sm)).map encSm))) (conts n) ⟨⟨_, _, rfl⟩, sub_um (Sub.refl _) hq0, um_same⟩ ?_ ?_
  · intro don c rest σ M1 k e ⟨⟨u3, u4, e1⟩, s1, h1⟩ hk
    subst e1
    have hdl : don.length + rest.length + 1 = n + 1 := by rw [← hcl, ← e]; simp; omega
    have hal := smAll_len hst don
    have hwl := smW_len st c
    (repeat decreasing_trivial_pre_omega)
    refine hw st c hst M1 _ fun M2 s2 => ?_
    (repeat decreasing_trivial_pre_omega)
    rw [List.length_map]
    refine hc _ (by omega) M2 _ fun M3 s3 => ?_
    (repeat decreasing_trivial_pre_omega)
    refine forL_by (enc := cutV) (fun don2 rest2 σ M' => (∃ u4, σ = [some (.int n), some (.dtp (st.map U.str)), some (.ref q), some (.int c), u4]) ∧ Sub M M' ∧ M' q = some (.lst (((don.flatMap fun c => (smCuts (smW st c).length).map fun k => ((c, k) : Sm)) ++ don2.map fun k => (c, k)).map encSm))) (smCuts (smW st c).length) ⟨⟨_, rfl⟩, (s1.trans s2).trans s3, by rw [s3 _ _ (s2 _ _ h1)]; simp⟩ ?_ ?_
    · intro don2 x rest2 σ M4 k2 e' ⟨⟨u4, e1⟩, s4, h4⟩ hk2
      subst e1
      have hl2 : don2.length + rest2.length + 1 = 2 * (smW st c).length + 1 := by rw [← smCuts_len, ← e']; simp; omega
      (repeat decreasing_trivial_pre_omega)
      refine m_app h4 (by simp only [List.length_map, List.length_append]; omega) ?_
      (repeat decreasing_trivial_pre_omega)
      refine hk2 _ _ trivial ⟨⟨_, rfl⟩, sub_um s4 hq0, ?_⟩
      rw [um_same]
      simp [encSm]
    · intro σ M4 ⟨⟨u4, e1⟩, s4, h4⟩
      subst e1
      refine hk _ _ trivial ⟨⟨_, _, rfl⟩, s4, ?_⟩
      rw [h4, List.flatMap_append]
      simp
  · intro σ M1 ⟨⟨u3, u4, e1⟩, s1, h1⟩
    subst e1
    (repeat decreasing_trivial_pre_omega)
    exact hq _ s1
def SmallsC (C : CE) (f : Nat) : Prop := ∀ (n : Nat) (st : List Str), n ≤ 4 → st.length ≤ 3 → Ret C f [.int n, .dtp (st.map U.str)] (.tup ((smAll n st).map encSm))
end
end Pl

set_option maxHeartbeats 1000000
/-! the program's table of cuts: its own walk -/
namespace Pl
open PySem L2 K79
def B_cut_table (is_wrong : Nat) (small_step : Nat) (small_stores : Nat) : S := (.seq (.asgT [2, 3] (.var 1)) (.seq (.asg 4 (.call small_stores (.cons (.var 0) (.cons (.var 2) .nil)))) (.seq (.asg 5 (.ddispN (.gtup "START" [(-3), (-3)]) (.tup .nil))) (.seq (.asg 6 (.lst (.cons (.gtup "START" [(-3), (-3)]) .nil))) (.seq (.asg 7 (.int 0)) (.seq (.whl (.cmp .lt (.var 7) (.blt .len (.cons (.var 6) .nil))) (.seq (.asg 8 (.ix (.var 6) (.var 7))) (.seq (.asg 7 (.bin .add (.var 7) (.int 1))) (.seq (.for_ (.one 9) (.iSeq (.var 4)) (.seq (.asg 10 (.call small_step (.cons (.var 2) (.cons (.var 8) (.cons (.var 9) .nil))))) (.seq (.ifs (.cmp .notin (.var 10) (.var 5)) (.seq (.setIx (.var 5) (.var 10) (.bin .add (.ix (.var 5) (.var 8)) (.tup (.cons (.var 9) .nil)))) (.seq (.expr (.mth .append (.var 6) (.cons (.var 10) .nil))) (.seq (.ifs (.call is_wrong (.cons (.var 3) (.cons (.var 10) .nil))) (.seq (.ret (.tup (.cons (.str "unsafe") (.cons (.ix (.var 5) (.var 10)) .nil)))) .skip) .skip) .skip))) .skip) .skip))) .skip)))) (.seq (.ret (.tup (.cons (.str "safe") (.cons (.blt .tuple (.cons (.blt .sorted (.cons (.var 6) .nil)) .nil)) .nil)))) .skip)))))))
theorem z_whl {C : CE} {c : E} {x : S} {nx bk ct : SU → Hm → Prop} {rt : QU} {σ : SU} {M : Hm} {W : Nat → SU → Hm → Prop} (h0 : ∃ m, W m σ M) (h : ∀ m σ M, W m σ M → (w C c).t σ M fun k M1 => if k = true then wS C x ⟨fun σ' M' => ∃ m', m' < m ∧ W m' σ' M', rt, nx, fun σ' M' => ∃ m', m' < m ∧ W m' σ' M'⟩ σ M1 else nx σ M1) : wS C (.whl c x) ⟨nx, rt, bk, ct⟩ σ M := ⟨W, h0, h⟩
theorem sortOk_S2 {l : List S2} (hl : l.length ≤ LIM) : sortOk (l.map encS2) := by
  refine ⟨?_, ?_, ?_, by rw [List.length_map]; exact hl⟩
  · refine List.all_eq_true.mpr fun x hx => ?_
    rw [List.mem_map] at hx
    obtain ⟨s, hs, rfl⟩ := hx
    simp [encS2, U.ok]
  · intro d hd d' hd'
    simp only [List.mem_map] at hd hd'
    obtain ⟨_, ⟨a, _, rfl⟩, rfl⟩ := hd
    obtain ⟨_, ⟨b, _, rfl⟩, rfl⟩ := hd'
    simp [encS2, pd, pdL, W.alike, W.alikeAll]
  · left
    intro d hd
    simp only [List.mem_map] at hd
    obtain ⟨_, ⟨a, _, rfl⟩, rfl⟩ := hd
    exact ⟨_, _, pd_tup _ _⟩
def encRow (l : List Sm) : U := .tup (l.map encSm)
section
variable {C : CE} {nx bk ct : SU → Hm → Prop} {rt : QU} {M : Hm}
theorem cut_table_ok {fi fs fa : Nat} (hI : WrongC C fi) (hS : SmStepC C fs) (hA : SmallsC C fa) {n : Nat} {st : List Str} {cls : List Int} (hn : n ≤ 4) (hst : st.length ≤ 3) (hc : ClOk n cls)
    (qs : ∀ us M', Sub M M' → (∀ s, RchS n st s → wrongS cls s = false) → rt (.tup [.str "safe", .tup us]) M')
    (qu : ∀ row M', Sub M M' → BadRow n st cls row → rt (.tup [.str "unsafe", encRow row]) M') :
    wS C (B_cut_table fi fs fa) ⟨nx, rt, bk, ct⟩ (startU 11 [.int n, kpU st cls]) M := by
  have hlim : LIM = 100000 := rfl
  unfold B_cut_table kpU
  (repeat decreasing_trivial_pre_omega)
  refine hA n st hn hst M _ fun M1 s1 => ?_
  (repeat decreasing_trivial_pre_omega)
  intro p hp
  (repeat decreasing_trivial_pre_omega)
  refine ⟨um_same, rfl, ?_⟩
  (repeat decreasing_trivial_pre_omega)
  intro q hq0
  (repeat decreasing_trivial_pre_omega)
  have hpq : q ≠ p := um_noneN hq0
  have nn : ∀ a, M1 a = none → M a = none := fun a h => by
    cases e : M a with
    | none => rfl
    | some o => rw [s1 _ _ e] at h; cases h
  have hpM := nn p hp
  have hqM0 := nn q (um_none (um_none hq0))
  refine z_whl (W := fun m σ M' => ∃ (D : List Row) (place : Nat) (u8 u9 u10 : Option U), m = 50 - place ∧ BD n st cls D place ∧ σ = [some (.int n), some (.tup [.dtp (st.map U.str), .tup (cls.map U.int)]), some (.dtp (st.map U.str)), some (.tup (cls.map U.int)), some (.tup ((smAll n st).map encSm)), some (.ref p), some (.ref q), some (.int place), u8, u9, u10] ∧
      M' p = some (.dcn (amap encS2 encRow D)) ∧ M' q = some (.lst ((D.map (·.1)).map encS2)) ∧ Sub M M') ⟨_, [(S0, [])], 0, none, none, none, rfl, BD.init _ _ _, rfl, um_oth hpq.symm (by rw [um_um]; exact um_same), um_same, ?_⟩ ?_
  · exact sub_um (sub_um (sub_um s1 hpM) hpM) hqM0
  intro m σ M2 ⟨D, place, u8, u9, u10, em, bd, e1, hp2, hq2, s2⟩
  subst em e1
  have hl49 : D.length ≤ 49 := by
    have := rch_len hn bd.nd fun s hs => by
      obtain ⟨d, hd, rfl⟩ := List.mem_map.mp hs
      exact bd.rch d hd
    rwa [List.length_map] at this
  (repeat decreasing_trivial_pre_omega)
  rw [List.length_map, List.length_map]
  by_cases hpl : place < D.length
  · refine i_ift (decide_eq_true (by omega)) ?_
    (repeat decreasing_trivial_pre_omega)
    obtain ⟨d, hdg⟩ : ∃ d, D[place]? = some d := ⟨_, List.getElem?_eq_getElem hpl⟩
    have hdm := List.mem_of_getElem? hdg
    refine x_lst (v := encS2 d.1) hq2 (by rw [atI_nat (by rw [List.length_map, List.length_map]; exact hpl), List.getElem_map, List.getElem_map, (List.getElem?_eq_some_iff.mp hdg).2]) ?_
    (repeat decreasing_trivial_pre_omega)
    refine forL_by (enc := encSm) (fun don rest σ M' => ∃ (D : List Row) (u9 u10 : Option U), BD n st cls D place ∧ Opening n st D place d don ∧ σ = [some (.int n), some (.tup [.dtp (st.map U.str), .tup (cls.map U.int)]), some (.dtp (st.map U.str)), some (.tup (cls.map U.int)), some (.tup ((smAll n st).map encSm)), some (.ref p), some (.ref q), some (.int (place + 1)), some (encS2 d.1), u9, u10] ∧
      M' p = some (.dcn (amap encS2 encRow D)) ∧ M' q = some (.lst ((D.map (·.1)).map encS2)) ∧ Sub M M') (smAll n st) ⟨D, u9, u10, bd, ⟨hdg, fun _ z => nomatch z⟩, rfl, hp2, hq2, s2⟩ ?_ ?_
    · clear hdg hpl hq2 hp2 s2 hl49
      clear bd
      intro don sm rest σ M3 k e ⟨D, u9, u10, bd, op, e1, hp3, hq3, s3⟩ hk
      subst e1
      have hsm : sm ∈ smAll n st := by rw [← e]; simp
      have hl49 : D.length ≤ 49 := by
        have := rch_len hn bd.nd fun s hs => by
          obtain ⟨d, hd, rfl⟩ := List.mem_map.mp hs
          exact bd.rch d hd
        rwa [List.length_map] at this
      have hdm := List.mem_of_getElem? op.at_
      have hd2 := bd.len2 d hdm
      (repeat decreasing_trivial_pre_omega)
      refine hS st d.1 sm hst M3 _ fun M4 s4 => ?_
      have hp4 := s4 _ _ hp3
      have hq4 := s4 _ _ hq3
      have s5 := s3.trans s4
      (repeat decreasing_trivial_pre_omega)
      refine nin_dcn hp4 rfl ?_
      rw [dfind_amap encS2_inj, Option.isSome_map, aget_isSome]
      by_cases hx : smStep st d.1 sm ∈ D.map (·.1)
      · rw [if_neg (by simpa using hx)]
        (repeat decreasing_trivial_pre_omega)
        exact hk _ _ trivial ⟨D, _, _, bd, BD.skip op hx, rfl, hp4, hq4, s5⟩
      · rw [if_pos (by simpa using hx)]
        (repeat decreasing_trivial_pre_omega)
        refine x_dcn (v := encRow d.2) hp4 rfl (by rw [dfind_amap encS2_inj, aget_of_mem bd.nd hdm]; rfl) ?_
        unfold encRow
        (repeat decreasing_trivial_pre_omega)
        refine o_addT (by simp; omega) ?_
        (repeat decreasing_trivial_pre_omega)
        refine st_dcn hp4 rfl (by rw [amap_len]; omega) ?_
        have er : U.tup (d.2.map encSm ++ [encSm sm]) = encRow (d.2 ++ [sm]) := by unfold encRow; simp
        rw [er, dput_amap encS2_inj, aput_new hx]
        have hq5 : (um M4 p (.dcn (amap encS2 encRow (D ++ [(smStep st d.1 sm, d.2 ++ [sm])])))) q = some (.lst ((D.map (·.1)).map encS2)) := um_oth hpq hq4
        (repeat decreasing_trivial_pre_omega)
        refine m_app hq5 (by simp; omega) ?_
        have hg : GrS n (smStep st d.1 sm) := step_grid (rch_grid (bd.rch d hdm)) hsm
        have s6 : Sub M (um (um M4 p (.dcn (amap encS2 encRow (D ++ [(smStep st d.1 sm, d.2 ++ [sm])])))) q (.lst ((D.map (·.1)).map encS2 ++ [encS2 (smStep st d.1 sm)]))) := sub_um (sub_um s5 hpM) hqM0
        have hp6 : (um (um M4 p (.dcn (amap encS2 encRow (D ++ [(smStep st d.1 sm, d.2 ++ [sm])])))) q (.lst ((D.map (·.1)).map encS2 ++ [encS2 (smStep st d.1 sm)]))) p = some (.dcn (amap encS2 encRow (D ++ [(smStep st d.1 sm, d.2 ++ [sm])]))) := um_oth hpq.symm um_same
        have hq6 : (um (um M4 p (.dcn (amap encS2 encRow (D ++ [(smStep st d.1 sm, d.2 ++ [sm])])))) q (.lst ((D.map (·.1)).map encS2 ++ [encS2 (smStep st d.1 sm)]))) q = some (.lst ((D.map (·.1)).map encS2 ++ [encS2 (smStep st d.1 sm)])) := um_same
        generalize (um (um M4 p (.dcn (amap encS2 encRow (D ++ [(smStep st d.1 sm, d.2 ++ [sm])])))) q (.lst ((D.map (·.1)).map encS2 ++ [encS2 (smStep st d.1 sm)]))) = M6 at *
        (repeat decreasing_trivial_pre_omega)
        refine hI n cls _ hc hg M6 _ fun M7 s7 => ?_
        have hp7 := s7 _ _ hp6
        have hq7 := s7 _ _ hq6
        have s8 := s6.trans s7
        (repeat decreasing_trivial_pre_omega)
        cases hw : wrongS cls (smStep st d.1 sm) with
        | true =>
          (repeat decreasing_trivial_pre_omega)
          refine x_dcn (v := encRow (d.2 ++ [sm])) hp7 rfl (by rw [dfind_amap encS2_inj, ← aput_new hx, aget_aput, if_pos rfl]; rfl) ?_
          (repeat decreasing_trivial_pre_omega)
          exact qu _ _ s8 (bd.bad op hsm hx hw)
        | false =>
          (repeat decreasing_trivial_pre_omega)
          obtain ⟨bd2, op2⟩ := bd.add op hsm hx hw
          exact hk _ _ trivial ⟨_, _, _, bd2, op2, rfl, hp7, by rw [hq7]; simp, s8⟩
    · intro σ M3 ⟨D, u9, u10, bd, op, e1, hp3, hq3, s3⟩
      subst e1
      have hpl := (List.getElem?_eq_some_iff.mp op.at_).1
      refine ⟨50 - (place + 1), ?_, D, place + 1, _, _, _, rfl, bd.next op, rfl, hp3, hq3, s3⟩
      omega
  · refine i_iff (decide_eq_false (by omega)) ?_
    (repeat decreasing_trivial_pre_omega)
    have ep : place = D.length := Nat.le_antisymm bd.le (by omega)
    subst ep
    refine f_sortL hq2 (sortOk_S2 (by rw [List.length_map]; omega)) ?_
    intro a ha
    (repeat decreasing_trivial_pre_omega)
    exact qs _ _ (sub_new s2 ha) bd.safe
end
end Pl

set_option maxHeartbeats 1000000
/-! k81: the law's own small disks -/
namespace Pl
open PySem L2 K79
def B_law_smalls : S := (.seq (.asg 2 (.lst .nil)) (.seq (.for_ (.one 3) (.iRange2 (.neg (.int 1)) (.var 0)) (.seq (.for_ (.one 4) (.iRange (.bin .sub (.blt .len (.cons (.var 1) .nil)) (.blt .int (.cons (.cmp .eq (.var 3) (.neg (.int 1))) .nil)))) (.seq (.expr (.mth .append (.var 2) (.cons (.tup (.cons (.var 3) (.cons (.tup (.cons (.var 4) (.cons (.bl false) .nil))) .nil))) .nil))) (.seq (.expr (.mth .append (.var 2) (.cons (.tup (.cons (.var 3) (.cons (.tup (.cons (.var 4) (.cons (.bl true) .nil))) .nil))) .nil))) .skip))) (.seq (.expr (.mth .append (.var 2) (.cons (.tup (.cons (.var 3) (.cons .non .nil))) .nil))) .skip))) (.seq (.ret (.var 2)) .skip)))
def B_law_effect : S := (.seq (.asg 2 (.comp [("word", 3)] (.one 3) (.iSeq (.var 0)) (.ors (.cons (.cmp .ne (.var 3) (.str "files")) (.cons (.cmp .ne (.ix (.var 1) (.int 0)) (.neg (.int 1))) .nil))) (.var 3))) (.seq (.asg 4 (.blt .len (.cons (.var 2) .nil))) (.seq (.ifs (.notN (.ix (.var 1) (.int 1))) (.seq (.asg 4 (.blt .min (.cons (.ix (.ix (.var 1) (.int 1)) (.int 0)) (.cons (.var 4) .nil)))) .skip) .skip) (.seq (.asg 5 .non) (.seq (.asg 6 .non) (.seq (.for_ (.one 3) (.iSeq (.slice (.var 2) .nil (.var 4))) (.seq (.ifs (.cmp .eq (.var 3) (.str "files")) (.seq (.asg 6 (.ix (.var 1) (.int 0))) .skip) .skip) (.seq (.ifs (.cmp .eq (.var 3) (.str "paper")) (.seq (.asg 5 (.ix (.var 1) (.int 0))) .skip) .skip) (.seq (.ifs (.cmp .eq (.var 3) (.str "drop")) (.seq (.asg 5 (.neg (.int 3))) .skip) .skip) .skip)))) (.seq (.ifs (.ands (.cons (.cmp .lt (.var 4) (.blt .len (.cons (.var 2) .nil))) (.cons (.ix (.ix (.var 1) (.int 1)) (.int 1)) .nil))) (.seq (.ifs (.cmp .eq (.ix (.var 2) (.var 4)) (.str "files")) (.seq (.asg 6 (.neg (.int 2))) .skip) (.seq (.asg 5 (.neg (.int 2))) .skip)) .skip) .skip) (.seq (.ret (.tup (.cons (.var 5) (.cons (.var 6) .nil)))) .skip))))))))
def B_law_after : S := (.seq (.asg 2 (.ite (.isN (.ix (.var 1) (.int 0))) (.ix (.var 0) (.int 0)) (.ix (.var 1) (.int 0)))) (.seq (.asg 3 (.ite (.isN (.ix (.var 1) (.int 1))) (.ix (.var 0) (.int 1)) (.ix (.var 1) (.int 1)))) (.seq (.ret (.tup (.cons (.var 2) (.cons (.var 3) .nil)))) .skip)))
def B_law_wrong : S := (.seq (.asgT [2, 3] (.var 1)) (.seq (.ifs (.cmp .lt (.var 2) (.int 0)) (.seq (.ret (.bl false)) .skip) .skip) (.seq (.ifs (.var 0) (.seq (.ifs (.ors (.cons (.cmp .lt (.var 3) (.int 0)) (.cons (.cmp .ne (.ix (.var 0) (.bin .add (.var 3) (.int 1))) (.ix (.var 0) (.bin .add (.var 2) (.int 1)))) .nil))) (.seq (.ret (.bl false)) .skip) .skip) .skip) .skip) (.seq (.ret (.cmp .ne (.var 3) (.var 2))) .skip))))
def optI : Option Int → U
  | none => .non
  | some i => .int i
def encEf (e : Ef) : U := .tup [optI e.1, optI e.2]
theorem optI_inj (a b : Option Int) (h : optI a = optI b) : a = b := by
  cases a <;> cases b <;> simp_all [optI]
theorem encEf_inj (a b : Ef) (h : encEf a = encEf b) : a = b := by
  unfold encEf at h
  simp only [U.tup.injEq, List.cons.injEq, and_true] at h
  exact Prod.ext (optI_inj _ _ h.1) (optI_inj _ _ h.2)
theorem smW_full {st : List Str} {c : Int} (h : c ≠ -1) : smW st c = st := by
  unfold smW
  refine List.filter_eq_self.mpr fun w _ => ?_
  rw [decide_eq_true h, Bool.or_true]
theorem smW_short {st : List Str} (ho : st ∈ ordersL) : (smW st (-1)).length + 1 = st.length := by
  have : ∀ st ∈ ordersL, (smW st (-1)).length + 1 = st.length := by decide +kernel
  exact this st ho
theorem ord_len {st : List Str} (ho : st ∈ ordersL) : st.length ≤ 3 := (ord_ok st ho).1
section
variable {C : CE} {nx bk ct : SU → Hm → Prop} {rt : QU} {M : Hm}
theorem law_smalls_ok {n : Nat} {st : List Str} (hn : n ≤ 4) (ho : st ∈ ordersL) (hq : ∀ q M', M q = none → Sub M M' → M' q = some (.lst ((smAll n st).map encSm)) → rt (.ref q) M') :
    wS C B_law_smalls ⟨nx, rt, bk, ct⟩ (startU 5 [.int n, stU st]) M := by
  have hlim : LIM = 100000 := rfl
  have hst := ord_len ho
  unfold B_law_smalls stU
  (repeat decreasing_trivial_pre_omega)
  intro q hq0
  (repeat decreasing_trivial_pre_omega)
  refine ⟨by omega, by omega, by omega, by omega, ?_⟩
  rw [rng_conts]
  have hcl : (conts n).length = n + 1 := by unfold conts; simp
  refine forL_by (enc := U.int) (fun don rest σ M' => (∃ u3 u4, σ = [some (.int n), some (.dtp (st.map U.str)), some (.ref q), u3, u4]) ∧ Sub M M' ∧ M' q = some (.lst ((don.flatMap fun c => (smCuts (smW st c).length).map fun k => ((c, k) : Sm)).map encSm))) (conts n) ⟨⟨_, _, rfl⟩, sub_um (Sub.refl _) hq0, um_same⟩ ?_ ?_
  · intro don c rest σ M1 k e ⟨⟨u3, u4, e1⟩, s1, h1⟩ hk
    subst e1
    have hdl : don.length + rest.length + 1 = n + 1 := by rw [← hcl, ← e]; simp; omega
    have hal := smAll_len hst don
    have hwl := smW_len st c
    have em : (((st.map U.str).length : Nat) : Int) - (if decide (c = -1) = true then 1 else 0) = ((smW st c).length : Nat) := by
      rw [List.length_map]
      by_cases h : c = -1
      · rw [if_pos (decide_eq_true h), h]; have := smW_short ho; omega
      · rw [if_neg (by simpa using h), smW_full h]; omega
    (repeat decreasing_trivial_pre_omega)
    rw [em]
    refine ⟨by omega, by omega, ?_⟩
    refine forL_nat (fun i σ M' => (∃ u4, σ = [some (.int n), some (.dtp (st.map U.str)), some (.ref q), some (.int c), u4]) ∧ Sub M M' ∧ M' q = some (.lst (((don.flatMap fun c => (smCuts (smW st c).length).map fun k => ((c, k) : Sm)) ++ (((List.range i).flatMap fun i => [some (i, false), some (i, true)] : List Cut).map fun k => (c, k))).map encSm))) (smW st c).length ⟨⟨_, rfl⟩, s1, by rw [h1]; simp⟩ ?_ ?_
    · intro i σ M4 k2 hi ⟨⟨u4, e1⟩, s4, h4⟩ hk2
      subst e1
      have hl : ((List.range i).flatMap fun i => [some (i, false), some (i, true)] : List Cut).length = 2 * i := by
        have : ∀ l : List Nat, (l.flatMap fun i => [some (i, false), some (i, true)] : List Cut).length = 2 * l.length := fun l => by
          induction l with
          | nil => rfl
          | cons x l ih => rw [List.flatMap_cons, List.length_append, ih]; simp; omega
        rw [this, List.length_range]
      (repeat decreasing_trivial_pre_omega)
      refine m_app h4 (by rw [List.length_map, List.length_append, List.length_map, hl]; omega) ?_
      (repeat decreasing_trivial_pre_omega)
      refine m_app um_same (by rw [List.length_append, List.length_map, List.length_append, List.length_map, hl, List.length_singleton]; omega) ?_
      (repeat decreasing_trivial_pre_omega)
      refine hk2 _ _ trivial ⟨⟨_, rfl⟩, sub_um (sub_um s4 hq0) hq0, ?_⟩
      rw [um_same, List.range_succ, List.flatMap_append]
      simp [encSm, cutV]
    · intro σ M4 ⟨⟨u4, e1⟩, s4, h4⟩
      subst e1
      have hl : ((List.range (smW st c).length).flatMap fun i => [some (i, false), some (i, true)] : List Cut).length = 2 * (smW st c).length := by
        have := smCuts_len (smW st c).length
        unfold smCuts at this
        rw [List.length_append, List.length_singleton] at this
        omega
      (repeat decreasing_trivial_pre_omega)
      refine m_app h4 (by rw [List.length_map, List.length_append, List.length_map, hl]; omega) ?_
      (repeat decreasing_trivial_pre_omega)
      refine hk _ _ trivial ⟨⟨_, _, rfl⟩, sub_um s4 hq0, ?_⟩
      rw [um_same, List.flatMap_append]
      simp [encSm, cutV, smCuts]
  · intro σ M1 ⟨⟨u3, u4, e1⟩, s1, h1⟩
    subst e1
    (repeat decreasing_trivial_pre_omega)
    exact hq _ _ hq0 s1 h1
theorem law_effect_ok {st : List Str} (hst : st.length ≤ 3) (hw : StW st) {sm : Sm} (hq : ∀ M', Sub M M' → rt (encEf (eff st sm)) M') : wS C B_law_effect ⟨nx, rt, bk, ct⟩ (startU 7 [stU st, encSm sm]) M := by
  have hlim : LIM = 100000 := rfl
  obtain ⟨c, cut⟩ := sm
  unfold B_law_effect stU encSm
  dsimp only
  (repeat decreasing_trivial_pre_omega)
  refine compL_by (enc := U.str) (fun don rest acc M' => M' = M ∧ acc = (smW don c).map U.str) st ⟨rfl, rfl⟩ ?_ ?_
  · intro don w rest acc M1 k e ⟨e1, e2⟩ hk
    subst e1 e2
    have hdl : don.length + rest.length + 1 = st.length := by rw [← e]; simp; omega
    have hsl : (smW don c).length ≤ don.length := List.length_filter_le _ _
    have yes : (decide (w ≠ "files") || decide (c ≠ -1)) = true → smW (don ++ [w]) c = smW don c ++ [w] := fun h => by unfold smW; rw [List.filter_append, List.filter_cons, if_pos h]; rfl
    have no : ¬ ((decide (w ≠ "files") || decide (c ≠ -1)) = true) → smW (don ++ [w]) c = smW don c := fun h => by unfold smW; rw [List.filter_append, List.filter_cons, if_neg h]; simp
    (repeat decreasing_trivial_pre_omega)
    by_cases h1 : w = "files"
    · refine i_ift (decide_eq_true h1) ?_
      (repeat decreasing_trivial_pre_omega)
      by_cases h2 : c = -1
      · refine i_ift (decide_eq_true h2) ?_
        refine hk _ _ trivial (fun z => by cases z) ⟨rfl, ?_⟩
        rw [no (by simp [h1, h2])]
        simp
      · refine i_iff (decide_eq_false h2) ?_
        (repeat decreasing_trivial_pre_omega)
        refine hk _ _ trivial (fun _ => by rw [List.length_map]; omega) ⟨rfl, ?_⟩
        rw [yes (by simp [h2])]
        simp
    · refine i_iff (decide_eq_false h1) ?_
      (repeat decreasing_trivial_pre_omega)
      refine hk _ _ trivial (fun _ => by rw [List.length_map]; omega) ⟨rfl, ?_⟩
      rw [yes (by simp [h1])]
      simp
  intro acc M1 ⟨e1, e2⟩
  subst e1 e2
  intro q hq0
  have hwl := smW_len st c
  have hsw : ∀ w ∈ smW st c, w = "drop" ∨ w = "files" ∨ w = "paper" := fun w hx => hw w (List.mem_filter.mp hx).1
  have hqm : (um M1 q (.lst ((smW st c).map U.str))) q = some (.lst ((smW st c).map U.str)) := um_same
  have s1 : Sub M1 (um M1 q (.lst ((smW st c).map U.str))) := sub_um (Sub.refl _) hq0
  generalize um M1 q (.lst ((smW st c).map U.str)) = M2 at *
  have eE : eff st (c, cut) = if (doneN (smW st c).length cut).2 = true then efTear (((smW st c).take (doneN (smW st c).length cut).1).foldl (efPut c) (none, none)) (smW st c)[(doneN (smW st c).length cut).1]? else ((smW st c).take (doneN (smW st c).length cut).1).foldl (efPut c) (none, none) := rfl
  rw [eE] at hq
  clear eE
  generalize eW : smW st c = W at *
  (repeat ((fail_if_success (with_reducible refine Pl.z_ifs ?_)); decreasing_trivial_pre_omega))
  rw [List.length_map]
  refine z_cutR fun R eR => ?_
  have key : R [some (.dtp (st.map U.str)), some (.tup [.int c, cutV cut]), some (.ref q), none, some (.int (doneN W.length cut).1), none, none] M2 := by
    rw [eR]
    have hlt := fun z => doneN_lt (m := W.length) (cut := cut) z
    have hle := doneN_le W.length cut
    have hcut : (doneN W.length cut).1 < W.length → ∃ a, cut = some (a, (doneN W.length cut).2) := fun z => by
      rcases cut with _ | ⟨a, b⟩
      · exact absurd z (Nat.lt_irrefl _)
      · refine ⟨a, ?_⟩
        rw [doneN_some] at z ⊢
        by_cases h : W.length ≤ a
        · rw [if_pos h] at z; exact absurd z (Nat.lt_irrefl _)
        · rw [if_neg h]
    generalize doneN W.length cut = D at *
    obtain ⟨m, b⟩ := D
    dsimp only at hlt hle hcut hq ⊢
    (repeat decreasing_trivial_pre_omega)
    intro a ha
    rw [cutU_take, ← List.map_take]
    have hq2 := um_old (o := .lst ((W.take m).map U.str)) hqm ha
    have ha2 : (um M2 a (.lst ((W.take m).map U.str))) a = some (.lst ((W.take m).map U.str)) := um_same
    have s2 : Sub M1 (um M2 a (.lst ((W.take m).map U.str))) := sub_new s1 ha
    generalize um M2 a (.lst ((W.take m).map U.str)) = M3 at *
    (repeat decreasing_trivial_pre_omega)
    refine forL_by (enc := U.str) (fun don rest σ M' => M' = M3 ∧ ∃ u3, σ = [some (.dtp (st.map U.str)), some (.tup [.int c, cutV cut]), some (.ref q), u3, some (.int m), some (optI (don.foldl (efPut c) (none, none)).1), some (optI (don.foldl (efPut c) (none, none)).2)]) (W.take m) ⟨rfl, none, rfl⟩ ?_ ?_
    · intro don w rest σ M4 k e ⟨e1, u10, e2⟩ hk
      subst e1 e2
      have hf : (don ++ [w]).foldl (efPut c) (none, none) = efPut c (don.foldl (efPut c) (none, none)) w := by rw [List.foldl_append]; rfl
      have hww : w = "drop" ∨ w = "files" ∨ w = "paper" := hsw w (List.mem_of_mem_take (by rw [← e]; simp))
      generalize don.foldl (efPut c) (none, none) = t at *
      rw [hf] at hk
      unfold efPut at hk
      (repeat decreasing_trivial_pre_omega)
      rcases hww with rfl | rfl | rfl
      · rw [if_neg (by decide +kernel), if_neg (by decide +kernel)] at hk
        refine i_iff (by decide +kernel) ?_
        (repeat decreasing_trivial_pre_omega)
        exact hk _ _ ha2 ⟨rfl, _, rfl⟩
      · rw [if_pos rfl] at hk
        refine i_ift (by decide +kernel) ?_
        (repeat decreasing_trivial_pre_omega)
        exact hk _ _ ha2 ⟨rfl, _, rfl⟩
      · rw [if_neg (by decide +kernel), if_pos rfl] at hk
        refine i_iff (by decide +kernel) ?_
        (repeat decreasing_trivial_pre_omega)
        exact hk _ _ ha2 ⟨rfl, _, rfl⟩
    · intro σ M4 ⟨e1, u10, e2⟩
      subst e1 e2
      generalize (W.take m).foldl (efPut c) (none, none) = t at *
      (repeat decreasing_trivial_pre_omega)
      rw [List.length_map]
      by_cases hlt2 : m < W.length
      · obtain ⟨a', rfl⟩ := hcut hlt2
        simp only [cutV]
        refine i_ift (decide_eq_true (by omega)) ?_
        (repeat decreasing_trivial_pre_omega)
        cases b with
        | false =>
          (repeat decreasing_trivial_pre_omega)
          exact hq _ s2
        | true =>
          obtain ⟨w, hwg⟩ : ∃ w, W[m]? = some w := ⟨_, List.getElem?_eq_getElem hlt2⟩
          rw [if_pos rfl, hwg] at hq
          (repeat decreasing_trivial_pre_omega)
          refine x_lst (v := .str w) hq2 (by rw [atI_nat (by rw [List.length_map]; exact hlt2), List.getElem_map, (List.getElem?_eq_some_iff.mp hwg).2]) ?_
          (repeat decreasing_trivial_pre_omega)
          unfold efTear at hq
          by_cases h1 : w = "files"
          · refine i_ift (decide_eq_true h1) ?_
            rw [if_pos (by rw [h1])] at hq
            (repeat decreasing_trivial_pre_omega)
            exact hq _ s2
          · refine i_iff (decide_eq_false h1) ?_
            rw [if_neg (fun z => h1 (Option.some.inj z))] at hq
            (repeat decreasing_trivial_pre_omega)
            exact hq _ s2
      · have hb : b = false := by
          cases b with
          | false => rfl
          | true => exact absurd (hlt rfl) hlt2
        subst hb
        refine i_iff (decide_eq_false (by omega)) ?_
        (repeat decreasing_trivial_pre_omega)
        exact hq _ s2
  rcases cut with _ | ⟨a, b⟩
  · simp only [cutV] at key ⊢
    (repeat decreasing_trivial_pre_omega)
    exact key
  · simp only [cutV] at key ⊢
    (repeat decreasing_trivial_pre_omega)
    rw [doneN_some] at key
    by_cases h : W.length ≤ a
    · rw [if_pos h] at key
      by_cases h2 : ((W.length : Nat) : Int) < (a : Int)
      · rw [if_pos h2]
        exact key
      · rw [if_neg h2]
        have : a = W.length := by omega
        rw [this]
        rw [this] at key
        exact key
    · rw [if_neg h] at key
      rw [if_neg (by omega)]
      exact key
theorem law_after_ok {s : S2} {e : Ef} (hq : rt (encS2 (aft s e)) M) : wS C B_law_after ⟨nx, rt, bk, ct⟩ (startU 4 [encS2 s, encEf e]) M := by
  obtain ⟨p, q⟩ := s
  obtain ⟨a, b⟩ := e
  unfold B_law_after encS2 encEf
  unfold aft encS2 at hq
  cases a with
  | none =>
    cases b with
    | none =>
      simp only [optI]
      (repeat decreasing_trivial_pre_omega)
      exact hq
    | some b =>
      simp only [optI]
      (repeat decreasing_trivial_pre_omega)
      exact hq
  | some a =>
    cases b with
    | none =>
      simp only [optI]
      (repeat decreasing_trivial_pre_omega)
      exact hq
    | some b =>
      simp only [optI]
      (repeat decreasing_trivial_pre_omega)
      exact hq
def AfterC (C : CE) (f : Nat) : Prop := ∀ (M : Hm) (s : S2) (e : Ef) (Q : QU), Q (encS2 (aft s e)) M → C f [encS2 s, encEf e] M Q
theorem law_wrong_ok {n : Nat} {cls : List Int} {s : S2} (hc : ClOk n cls) (hg : GrS n s) (hq : rt (.bl (wrongS cls s)) M) : wS C B_law_wrong ⟨nx, rt, bk, ct⟩ (startU 4 [.tup (cls.map U.int), encS2 s]) M := by
  obtain ⟨⟨g1, g2⟩, g3, g4⟩ := hg
  obtain ⟨p, q⟩ := s
  dsimp only at g1 g2 g3 g4
  have yes : (0 ≤ p ∧ p ≠ q ∧ (cls = [] ∨ (0 ≤ q ∧ clAt cls q = clAt cls p))) → rt (.bl true) M := fun h => by
    have := hq
    unfold wrongS at this
    rwa [decide_eq_true h] at this
  have no : ¬ (0 ≤ p ∧ p ≠ q ∧ (cls = [] ∨ (0 ≤ q ∧ clAt cls q = clAt cls p))) → rt (.bl false) M := fun h => by
    have := hq
    unfold wrongS at this
    rwa [decide_eq_false h] at this
  have last : 0 ≤ p → (cls = [] ∨ (0 ≤ q ∧ clAt cls q = clAt cls p)) → rt (.bl (!decide (q = p))) M := fun h1 h2 => by
    by_cases e : q = p
    · rw [decide_eq_true e]; exact no fun z => z.2.1 e.symm
    · rw [decide_eq_false e]; exact yes ⟨h1, fun z => e z.symm, h2⟩
  unfold B_law_wrong encS2
  (repeat decreasing_trivial_pre_omega)
  by_cases h1 : p < 0
  · refine i_ift (decide_eq_true h1) ?_
    (repeat decreasing_trivial_pre_omega)
    exact no fun z => by omega
  refine i_iff (decide_eq_false h1) ?_
  (repeat decreasing_trivial_pre_omega)
  by_cases h3 : cls = []
  · refine i_ift (by rw [h3]; rfl) ?_
    (repeat decreasing_trivial_pre_omega)
    exact last (by omega) (.inl h3)
  refine i_iff (by simpa using h3) ?_
  (repeat decreasing_trivial_pre_omega)
  by_cases h4 : q < 0
  · refine i_ift (decide_eq_true h4) ?_
    (repeat decreasing_trivial_pre_omega)
    exact no fun z => z.2.2.elim h3 fun z => by omega
  refine i_iff (decide_eq_false h4) ?_
  (repeat decreasing_trivial_pre_omega)
  refine x_tup (cl_ix hc h3 (by omega) g4) ?_
  (repeat decreasing_trivial_pre_omega)
  refine x_tup (cl_ix hc h3 (by omega) g2) ?_
  (repeat decreasing_trivial_pre_omega)
  by_cases h5 : clAt cls q = clAt cls p
  · refine i_ift (by simpa using h5) ?_
    (repeat decreasing_trivial_pre_omega)
    exact last (by omega) (.inr ⟨by omega, h5⟩)
  · refine i_iff (by simpa using h5) ?_
    (repeat decreasing_trivial_pre_omega)
    exact no fun z => z.2.2.elim h3 fun z => h5 z.2
def LWrongC (C : CE) (f : Nat) : Prop := ∀ (M : Hm) (n : Nat) (cls : List Int) (s : S2) (Q : QU), ClOk n cls → GrS n s → Q (.bl (wrongS cls s)) M → C f [.tup (cls.map U.int), encS2 s] M Q
end
end Pl

set_option maxHeartbeats 1000000
/-! k81: the law's own states -/
namespace Pl
open PySem L2 K79
def B_law_reached (law_after : Nat) : S := (.seq (.asg 2 (.blt .list (.cons (.var 0) .nil))) (.seq (.asg 3 .dnewN) (.seq (.for_ (.one 4) (.iSeq (.var 0)) (.seq (.setIx (.var 3) (.var 4) (.bl true)) .skip)) (.seq (.for_ (.one 5) (.iRange (.int 99)) (.seq (.ifs (.cmp .ge (.var 5) (.blt .len (.cons (.var 2) .nil))) (.seq .brk .skip) .skip) (.seq (.for_ (.one 6) (.iSeq (.var 1)) (.seq (.asg 7 (.call law_after (.cons (.ix (.var 2) (.var 5)) (.cons (.var 6) .nil)))) (.seq (.ifs (.cmp .notin (.var 7) (.var 3)) (.seq (.setIx (.var 3) (.var 7) (.bl true)) (.seq (.expr (.mth .append (.var 2) (.cons (.var 7) .nil))) .skip)) .skip) .skip))) .skip))) (.seq (.ret (.var 2)) .skip)))))
def B_law_effects (law_smalls : Nat) (law_effect : Nat) : S := (.seq (.asg 2 (.lst .nil)) (.seq (.for_ (.one 3) (.iSeq (.call law_smalls (.cons (.var 0) (.cons (.var 1) .nil)))) (.seq (.asg 4 (.call law_effect (.cons (.var 1) (.cons (.var 3) .nil)))) (.seq (.ifs (.cmp .notin (.var 4) (.var 2)) (.seq (.expr (.mth .append (.var 2) (.cons (.var 4) .nil))) .skip) .skip) .skip))) (.seq (.ret (.var 2)) .skip)))
def B_law_is_safe (law_reached : Nat) (law_effects : Nat) (law_wrong : Nat) : S := (.seq (.for_ (.one 2) (.iSeq (.call law_reached (.cons (.lst (.cons (.tup (.cons (.neg (.int 3)) (.cons (.neg (.int 3)) .nil))) .nil)) (.cons (.call law_effects (.cons (.var 0) (.cons (.ix (.var 1) (.int 0)) .nil))) .nil)))) (.seq (.ifs (.call law_wrong (.cons (.ix (.var 1) (.int 1)) (.cons (.var 2) .nil))) (.seq (.ret (.bl false)) .skip) .skip) .skip)) (.seq (.ret (.bl true)) .skip))
inductive RchE (E : List Ef) (S : List S2) : S2 → Prop
  | start {s : S2} : s ∈ S → RchE E S s
  | step {s : S2} {e : Ef} : RchE E S s → e ∈ E → RchE E S (aft s e)
structure LD (E : List Ef) (S D : List S2) (place : Nat) : Prop where
  nd : D.Nodup
  sub : ∀ d ∈ D, RchE E S d
  st : S <+: D
  ex : ∀ (i : Nat) (d : S2), i < place → D[i]? = some d → ∀ e ∈ E, aft d e ∈ D
structure LO (E : List Ef) (D : List S2) (place : Nat) (d : S2) (don : List Ef) : Prop where
  at_ : D[place]? = some d
  ex : ∀ e ∈ don, aft d e ∈ D
theorem LD.init {E : List Ef} {S : List S2} (nd : S.Nodup) : LD E S S 0 := ⟨nd, fun d hd => .start hd, List.prefix_refl _, fun i d h => absurd h (Nat.not_lt_zero _)⟩
theorem LO.skip {E : List Ef} {D : List S2} {place : Nat} {d : S2} {don : List Ef} {e : Ef} (o : LO E D place d don) (h : aft d e ∈ D) : LO E D place d (don ++ [e]) := ⟨o.at_, fun x hx => by
  rcases List.mem_append.mp hx with z | z
  · exact o.ex x z
  · rw [List.mem_singleton.mp z]; exact h⟩
theorem LD.add {E : List Ef} {S D : List S2} {place : Nat} {d : S2} {don : List Ef} {e : Ef} (l : LD E S D place) (o : LO E D place d don) (he : e ∈ E) (hx : aft d e ∉ D) : LD E S (D ++ [aft d e]) place ∧ LO E (D ++ [aft d e]) place d (don ++ [e]) := by
  have hpl := (List.getElem?_eq_some_iff.mp o.at_).1
  refine ⟨⟨?_, fun x hxm => ?_, l.st.trans (List.prefix_append _ _), fun i x hi hxi y hy => ?_⟩, ⟨by rw [List.getElem?_append_left hpl]; exact o.at_, fun x hxm => ?_⟩⟩
  · rw [List.nodup_append]
    exact ⟨l.nd, by simp, fun a ha b hb z => hx (by rw [List.mem_singleton] at hb; rw [← hb, ← z]; exact ha)⟩
  · rcases List.mem_append.mp hxm with z | z
    · exact l.sub x z
    · rw [List.mem_singleton.mp z]; exact .step (l.sub d (List.mem_of_getElem? o.at_)) he
  · rw [List.getElem?_append_left (by omega)] at hxi
    exact List.mem_append_left _ (l.ex i x hi hxi y hy)
  · rcases List.mem_append.mp hxm with z | z
    · exact List.mem_append_left _ (o.ex x z)
    · rw [List.mem_singleton.mp z]; simp
theorem LD.next {E : List Ef} {S D : List S2} {place : Nat} {d : S2} (l : LD E S D place) (o : LO E D place d E) : LD E S D (place + 1) := ⟨l.nd, l.sub, l.st, fun i x hi hxi => by
  rcases Nat.lt_succ_iff_lt_or_eq.mp hi with z | z
  · exact l.ex i x z hxi
  · subst z
    rw [o.at_] at hxi
    rw [← Option.some.inj hxi]
    exact o.ex⟩
theorem LD.all {E : List Ef} {S D : List S2} {place : Nat} (l : LD E S D place) (h : D.length ≤ place) (s : S2) : s ∈ D ↔ RchE E S s := ⟨l.sub s, fun h' => by
  induction h' with
  | start h => exact l.st.subset h
  | step _ he ih =>
    obtain ⟨i, hi, e⟩ := List.getElem_of_mem ih
    exact l.ex i _ (by omega) (by rw [List.getElem?_eq_getElem hi, e]) _ he⟩
def metU (D : List S2) : List (U × U) := amap encS2 (fun _ : Unit => U.bl true) (D.map fun s => (s, ()))
theorem metU_find (D : List S2) (s : S2) : (dfind (metU D) (encS2 s)).isSome = decide (s ∈ D) := by
  unfold metU
  rw [dfind_amap encS2_inj, Option.isSome_map, aget_isSome, List.map_map, show ((fun x : S2 × Unit => x.1) ∘ fun s => (s, ())) = id from rfl, List.map_id]
  exact decide_eq_decide.mpr Iff.rfl
theorem metU_put {D : List S2} {s : S2} (h : s ∉ D) : dput (metU D) (encS2 s) (.bl true) = metU (D ++ [s]) := by
  have e := dput_amap (f := encS2) (g := fun _ : Unit => U.bl true) encS2_inj (D.map fun s => (s, ())) s ()
  unfold metU
  rw [e, aput_new]
  · rw [List.map_append]; rfl
  · rw [List.map_map, show ((fun x : S2 × Unit => x.1) ∘ fun s => (s, ())) = id from rfl, List.map_id]
    exact h
theorem metU_len (D : List S2) : (metU D).length = D.length := by unfold metU; rw [amap_len, List.length_map]
section
variable {C : CE} {nx bk ct : SU → Hm → Prop} {rt : QU} {M : Hm}
theorem law_reached_ok {fa : Nat} (hA : AfterC C fa) {E : List Ef} {S G : List S2} {ps pe : Addr} (hps : M ps = some (.lst (S.map encS2))) (hpe : M pe = some (.lst (E.map encEf))) (hnd : S.Nodup) (hG : ∀ s, RchE E S s → s ∈ G) (hGl : G.length ≤ 98)
    (hq : ∀ q D M', M q = none → Sub M M' → M' q = some (.lst (D.map encS2)) → D.Nodup → (∀ s, s ∈ D ↔ RchE E S s) → S <+: D → rt (.ref q) M') :
    wS C (B_law_reached fa) ⟨nx, rt, bk, ct⟩ (startU 8 [.ref ps, .ref pe]) M := by
  have hlim : LIM = 100000 := rfl
  unfold B_law_reached
  (repeat decreasing_trivial_pre_omega)
  intro q hq0
  have hqs : ps ≠ q := fun z => by rw [← z, hps] at hq0; cases hq0
  have hqe : pe ≠ q := fun z => by rw [← z, hpe] at hq0; cases hq0
  (repeat decreasing_trivial_pre_omega)
  intro p hp0
  have hpq : p ≠ q := um_noneN hp0
  have hpM := um_none hp0
  have hpps : ps ≠ p := fun z => by rw [← z, hps] at hpM; cases hpM
  have hppe : pe ≠ p := fun z => by rw [← z, hpe] at hpM; cases hpM
  have a1 : (um (um M q (.lst (S.map encS2))) p (.dcn [])) q = some (.lst (S.map encS2)) := um_oth hpq.symm um_same
  have a2 : (um (um M q (.lst (S.map encS2))) p (.dcn [])) p = some (.dcn (metU [])) := um_same
  have a3 : (um (um M q (.lst (S.map encS2))) p (.dcn [])) ps = some (.lst (S.map encS2)) := um_oth hpps (um_oth hqs hps)
  have a4 : Sub M (um (um M q (.lst (S.map encS2))) p (.dcn [])) := sub_um (sub_um (Sub.refl _) hq0) hpM
  generalize um (um M q (.lst (S.map encS2))) p (.dcn []) = M1 at *
  (repeat decreasing_trivial_pre_omega)
  refine forL_by (enc := encS2) (fun don rest σ M' => ∃ u4, σ = [some (.ref ps), some (.ref pe), some (.ref q), some (.ref p), u4, none, none, none] ∧ M' q = some (.lst (S.map encS2)) ∧ M' p = some (.dcn (metU don)) ∧ M' ps = some (.lst (S.map encS2)) ∧ Sub M M') S ⟨none, rfl, a1, a2, a3, a4⟩ ?_ ?_
  · intro don s rest σ M2 k e ⟨u4, e1, b1, b2, b3, b4⟩ hk
    subst e1
    have hsd : s ∉ don := fun z => by
      rw [← e, List.nodup_append] at hnd
      exact hnd.2.2 s z s (by simp) rfl
    have hdl : don.length ≤ 98 := by
      have h1 := nd_len' hnd fun s hs => hG s (.start hs)
      have h2 : don.length ≤ S.length := by rw [← e]; simp
      omega
    (repeat decreasing_trivial_pre_omega)
    refine st_dcn b2 rfl (by rw [metU_len]; omega) ?_
    rw [metU_put hsd]
    (repeat decreasing_trivial_pre_omega)
    exact hk _ _ (um_oth hpps b3) ⟨_, rfl, um_oth hpq.symm b1, um_same, um_oth hpps b3, sub_um b4 hpM⟩
  · intro σ M2 ⟨u4, e1, b1, b2, b3, b4⟩
    subst e1
    have fin : ∀ (D : List S2) (place : Nat) (u5 u6 u7 : Option U) M', LD E S D place → D.length ≤ place → M' q = some (.lst (D.map encS2)) → Sub M M' → wS C (.seq (.ret (.var 2)) .skip) ⟨nx, rt, bk, ct⟩ [some (.ref ps), some (.ref pe), some (.ref q), some (.ref p), u4, u5, u6, u7] M' := by
      intro D place u5 u6 u7 M' l hl h1 h2
      (repeat decreasing_trivial_pre_omega)
      exact hq q D M' hq0 h2 h1 l.nd (l.all hl) l.st
    (repeat decreasing_trivial_pre_omega)
    refine ⟨by omega, by omega, ?_⟩
    refine forL_nat (fun i σ M' => ∃ D u5 u6 u7, σ = [some (.ref ps), some (.ref pe), some (.ref q), some (.ref p), u4, u5, u6, u7] ∧ LD E S D i ∧ M' q = some (.lst (D.map encS2)) ∧ M' p = some (.dcn (metU D)) ∧ Sub M M') 99 ⟨S, none, none, none, rfl, LD.init hnd, b1, b2, b4⟩ ?_ ?_
    · intro i σ M3 k hi ⟨D, u5, u6, u7, e1, l, c1, c2, c4⟩ hk
      subst e1
      (repeat decreasing_trivial_pre_omega)
      rw [List.length_map]
      by_cases hlen : D.length ≤ i
      · refine i_ift (decide_eq_true (by omega)) ?_
        (repeat decreasing_trivial_pre_omega)
        exact hq q D M3 hq0 c4 c1 l.nd (l.all hlen) l.st
      · refine i_iff (decide_eq_false (by omega)) ?_
        have hpe3 := c4 _ _ hpe
        (repeat decreasing_trivial_pre_omega)
        obtain ⟨d, hdg⟩ : ∃ d, D[i]? = some d := ⟨_, List.getElem?_eq_getElem (by omega)⟩
        refine forL_by (enc := encEf) (fun don rest σ M' => ∃ D u6 u7, σ = [some (.ref ps), some (.ref pe), some (.ref q), some (.ref p), u4, some (.int i), u6, u7] ∧ LD E S D i ∧ LO E D i d don ∧ M' q = some (.lst (D.map encS2)) ∧ M' p = some (.dcn (metU D)) ∧ Sub M M') E ⟨D, u6, u7, rfl, l, ⟨hdg, fun _ z => nomatch z⟩, c1, c2, c4⟩ ?_ ?_
        · clear c1 c2 c4 l hlen hdg hpe3
          intro don e rest σ M4 k2 e' ⟨D, u6, u7, e1, l, o, c1, c2, c4⟩ hk2
          subst e1
          have he : e ∈ E := by rw [← e']; simp
          have hpe4 := c4 _ _ hpe
          have hDl : D.length ≤ 98 := Nat.le_trans (nd_len' l.nd fun s hs => hG s (l.sub s hs)) hGl
          have hil := (List.getElem?_eq_some_iff.mp o.at_).1
          (repeat decreasing_trivial_pre_omega)
          refine x_lst (v := encS2 d) c1 (by rw [atI_nat (by rw [List.length_map]; exact hil), List.getElem_map, (List.getElem?_eq_some_iff.mp o.at_).2]) ?_
          (repeat decreasing_trivial_pre_omega)
          refine hA M4 d e _ ?_
          (repeat decreasing_trivial_pre_omega)
          refine nin_dcn c2 rfl ?_
          rw [metU_find]
          by_cases hx : aft d e ∈ D
          · rw [if_neg (by simpa using hx)]
            (repeat decreasing_trivial_pre_omega)
            exact hk2 _ _ hpe4 ⟨D, _, _, rfl, l, o.skip hx, c1, c2, c4⟩
          · rw [if_pos (by simpa using hx)]
            (repeat decreasing_trivial_pre_omega)
            refine st_dcn c2 rfl (by rw [metU_len]; omega) ?_
            rw [metU_put hx]
            have c1' := um_oth (o := .dcn (metU (D ++ [aft d e]))) hpq.symm c1
            (repeat decreasing_trivial_pre_omega)
            refine m_app c1' (by rw [List.length_map]; omega) ?_
            (repeat decreasing_trivial_pre_omega)
            obtain ⟨l2, o2⟩ := l.add o he hx
            exact hk2 _ _ (um_oth hqe (um_oth hppe hpe4)) ⟨_, _, _, rfl, l2, o2, by rw [um_same]; simp, um_oth hpq um_same, sub_um (sub_um c4 hpM) hq0⟩
        · intro σ M4 ⟨D, u6, u7, e1, l, o, c1, c2, c4⟩
          subst e1
          (repeat decreasing_trivial_pre_omega)
          exact hk _ _ trivial ⟨D, _, _, _, rfl, l.next o, c1, c2, c4⟩
    · intro σ M3 ⟨D, u5, u6, u7, e1, l, c1, c2, c4⟩
      subst e1
      have hDl : D.length ≤ 98 := Nat.le_trans (nd_len' l.nd fun s hs => hG s (l.sub s hs)) hGl
      exact fin D 99 _ _ _ _ l (by omega) c1 c4
def ReachC (C : CE) (f : Nat) : Prop := ∀ (M : Hm) (E : List Ef) (S G : List S2) (ps pe : Addr) (Q : QU), M ps = some (.lst (S.map encS2)) → M pe = some (.lst (E.map encEf)) → S.Nodup → (∀ s, RchE E S s → s ∈ G) → G.length ≤ 98 →
    (∀ q D M', M q = none → Sub M M' → M' q = some (.lst (D.map encS2)) → D.Nodup → (∀ s, s ∈ D ↔ RchE E S s) → S <+: D → Q (.ref q) M') → C f [.ref ps, .ref pe] M Q
def LSmallsC (C : CE) (f : Nat) : Prop := ∀ (M : Hm) (n : Nat) (st : List Str) (Q : QU), n ≤ 4 → st ∈ ordersL → (∀ q M', M q = none → Sub M M' → M' q = some (.lst ((smAll n st).map encSm)) → Q (.ref q) M') → C f [.int n, stU st] M Q
def EffC (C : CE) (f : Nat) : Prop := ∀ (st : List Str) (sm : Sm), st.length ≤ 3 → StW st → Ret C f [stU st, encSm sm] (encEf (eff st sm))
/-- the different effects of all small stores -/
def EfOf (n : Nat) (st : List Str) (E : List Ef) : Prop := (∀ e ∈ E, ∃ sm ∈ smAll n st, e = eff st sm) ∧ ∀ sm ∈ smAll n st, eff st sm ∈ E
theorem law_effects_ok {fs fe : Nat} (hS : LSmallsC C fs) (hE : EffC C fe) {n : Nat} {st : List Str} (hn : n ≤ 4) (ho : st ∈ ordersL)
    (hq : ∀ q E M', M q = none → Sub M M' → M' q = some (.lst (E.map encEf)) → EfOf n st E → rt (.ref q) M') : wS C (B_law_effects fs fe) ⟨nx, rt, bk, ct⟩ (startU 5 [.int n, stU st]) M := by
  have hlim : LIM = 100000 := rfl
  have hst := ord_len ho
  unfold B_law_effects
  (repeat decreasing_trivial_pre_omega)
  intro q hq0
  (repeat decreasing_trivial_pre_omega)
  refine hS _ n st _ hn ho fun r M1 r0 s1 hr => ?_
  have hqr : q ≠ r := um_noneN r0 |>.symm
  have q1 := s1 _ _ (um_same (M := M) (a := q) (o := .lst []))
  have s2 : Sub M M1 := (sub_um (Sub.refl _) hq0).trans s1
  have hal : (smAll n st).length ≤ 7 * (conts n).length := smAll_len hst _
  have hcl : (conts n).length = n + 1 := by unfold conts; simp
  (repeat decreasing_trivial_pre_omega)
  refine forL_by (enc := encSm) (fun don rest σ M' => ∃ E u3 u4, σ = [some (.int n), some (stU st), some (.ref q), u3, u4] ∧ M' q = some (.lst (E.map encEf)) ∧ M' r = some (.lst ((smAll n st).map encSm)) ∧ Sub M M' ∧ (∀ e ∈ E, ∃ sm ∈ smAll n st, e = eff st sm) ∧ (∀ sm ∈ don, eff st sm ∈ E) ∧ E.length ≤ don.length) (smAll n st) ⟨[], none, none, rfl, q1, hr, s2, (fun _ z => nomatch z), (fun _ z => nomatch z), Nat.zero_le _⟩ ?_ ?_
  · intro don sm rest σ M2 k e ⟨E, u3, u4, e1, b1, b2, b3, b4, b5, b6⟩ hk
    subst e1
    have hsm : sm ∈ smAll n st := by rw [← e]; simp
    have hdl : don.length + rest.length + 1 = (smAll n st).length := by rw [← e]; simp; omega
    (repeat decreasing_trivial_pre_omega)
    refine hE st sm hst (ordersW ho) M2 _ fun M3 s3 => ?_
    have c1 := s3 _ _ b1
    have c2 := s3 _ _ b2
    have okE : ∀ e : Ef, okU (encEf e) = true := fun e => by obtain ⟨a, b⟩ := e; cases a <;> cases b <;> rfl
    have okL' : ∀ E : List Ef, okL (E.map encEf) = true := fun E => by
      refine List.all_eq_true.mpr fun x hx => ?_
      rw [List.mem_map] at hx
      obtain ⟨⟨a, b⟩, _, rfl⟩ := hx
      cases a <;> cases b <;> rfl
    (repeat decreasing_trivial_pre_omega)
    refine nin_lst c1 (okE _) (okL' _) ?_
    have em : encEf (eff st sm) ∈ E.map encEf ↔ eff st sm ∈ E := by
      rw [List.mem_map]
      exact ⟨fun ⟨x, hx, ex⟩ => by rw [← encEf_inj _ _ ex]; exact hx, fun h => ⟨_, h, rfl⟩⟩
    by_cases hx : eff st sm ∈ E
    · rw [if_neg (by simpa using em.mpr hx)]
      (repeat decreasing_trivial_pre_omega)
      refine hk _ _ c2 ⟨E, _, _, rfl, c1, c2, b3.trans s3, b4, fun x hxm => ?_, by simp; omega⟩
      rcases List.mem_append.mp hxm with z | z
      · exact b5 x z
      · rw [List.mem_singleton.mp z]; exact hx
    · rw [if_pos (by simpa using fun z => hx (em.mp z))]
      (repeat decreasing_trivial_pre_omega)
      refine m_app c1 (by rw [List.length_map]; omega) ?_
      (repeat decreasing_trivial_pre_omega)
      refine hk _ _ (um_oth hqr.symm c2) ⟨E ++ [eff st sm], _, _, rfl, by rw [um_same]; simp, um_oth hqr.symm c2, sub_um (b3.trans s3) hq0, fun x hxm => ?_, fun x hxm => ?_, by simp; omega⟩
      · rcases List.mem_append.mp hxm with z | z
        · exact b4 x z
        · exact ⟨sm, hsm, List.mem_singleton.mp z⟩
      · rcases List.mem_append.mp hxm with z | z
        · exact List.mem_append_left _ (b5 x z)
        · rw [List.mem_singleton.mp z]; simp
  · intro σ M2 ⟨E, u3, u4, e1, b1, b2, b3, b4, b5, b6⟩
    subst e1
    (repeat decreasing_trivial_pre_omega)
    exact hq q E M2 hq0 b3 b1 ⟨b4, b5⟩
def EffsC (C : CE) (f : Nat) : Prop := ∀ (M : Hm) (n : Nat) (st : List Str) (Q : QU), n ≤ 4 → st ∈ ordersL → (∀ q E M', M q = none → Sub M M' → M' q = some (.lst (E.map encEf)) → EfOf n st E → Q (.ref q) M') → C f [.int n, stU st] M Q
theorem rchE_iff {n : Nat} {st : List Str} {E : List Ef} (h : EfOf n st E) (s : S2) : RchE E [S0] s ↔ RchS n st s := by
  constructor
  · intro hr
    induction hr with
    | start h => rw [List.mem_singleton.mp h]; exact .start
    | step _ he ih =>
      obtain ⟨sm, hsm, rfl⟩ := h.1 _ he
      rw [← step_eff]
      exact .step ih hsm
  · intro hr
    induction hr with
    | start => exact .start (List.mem_singleton.mpr rfl)
    | step _ hm ih =>
      rw [step_eff]
      exact .step ih (h.2 _ hm)
theorem grid_le {n : Nat} (hn : n ≤ 4) : (gridL n).length ≤ 98 := by
  rw [grid_len]
  have : (n + 3) * (n + 3) ≤ 7 * 7 := Nat.mul_le_mul (by omega) (by omega)
  omega
theorem law_is_safe_ok {fr fe fw : Nat} (hR : ReachC C fr) (hE : EffsC C fe) (hW : LWrongC C fw) {n : Nat} {st : List Str} {cls : List Int} (hn : n ≤ 4) (ho : st ∈ ordersL) (hc : ClOk n cls)
    (hq : ∀ b M', Sub M M' → (b = true ↔ ∀ s, RchS n st s → wrongS cls s = false) → rt (.bl b) M') : wS C (B_law_is_safe fr fe fw) ⟨nx, rt, bk, ct⟩ (startU 3 [.int n, kpU st cls]) M := by
  unfold B_law_is_safe kpU
  (repeat decreasing_trivial_pre_omega)
  intro q hq0
  have q1 : (um M q (.lst [.tup [.int (-3), .int (-3)]])) q = some (.lst ([S0].map encS2)) := um_same
  have s1 : Sub M (um M q (.lst [.tup [.int (-3), .int (-3)]])) := sub_um (Sub.refl _) hq0
  generalize um M q (.lst [.tup [.int (-3), .int (-3)]]) = M1 at *
  (repeat decreasing_trivial_pre_omega)
  refine hE _ n st _ hn ho fun r E M2 r0 s2 hr he => ?_
  (repeat decreasing_trivial_pre_omega)
  refine hR M2 E [S0] (gridL n) q r _ (s2 _ _ q1) hr (by simp) (fun s hs => grid_mem (rch_grid ((rchE_iff he s).mp hs))) (grid_le hn) fun t D M3 t0 s3 ht nd hD _ => ?_
  have s4 := (s1.trans s2).trans s3
  (repeat decreasing_trivial_pre_omega)
  refine forL_by (enc := encS2) (fun don rest σ M' => ∃ u2, σ = [some (.int n), some (.tup [.dtp (st.map U.str), .tup (cls.map U.int)]), u2] ∧ M' t = some (.lst (D.map encS2)) ∧ Sub M M' ∧ ∀ s ∈ don, wrongS cls s = false) D ⟨none, rfl, ht, s4, fun _ z => nomatch z⟩ ?_ ?_
  · intro don s rest σ M4 k e ⟨u2, e1, b1, b2, b3⟩ hk
    subst e1
    have hs : RchS n st s := (rchE_iff he s).mp ((hD s).mp (by rw [← e]; simp))
    (repeat decreasing_trivial_pre_omega)
    refine hW M4 n cls s _ hc (rch_grid hs) ?_
    cases hw : wrongS cls s with
    | true =>
      (repeat decreasing_trivial_pre_omega)
      exact hq false _ b2 ⟨fun z => (nomatch z), fun z => by rw [z s hs] at hw; cases hw⟩
    | false =>
      (repeat decreasing_trivial_pre_omega)
      refine hk _ _ b1 ⟨_, rfl, b1, b2, fun x hx => ?_⟩
      rcases List.mem_append.mp hx with z | z
      · exact b3 x z
      · rw [List.mem_singleton.mp z]; exact hw
  · intro σ M4 ⟨u2, e1, b1, b2, b3⟩
    subst e1
    (repeat decreasing_trivial_pre_omega)
    exact hq true _ b2 ⟨fun _ s hs => b3 s ((hD s).mpr ((rchE_iff he s).mpr hs)), fun _ => rfl⟩
def SafeC (C : CE) (f : Nat) : Prop := ∀ (M : Hm) (n : Nat) (st : List Str) (cls : List Int) (Q : QU), n ≤ 4 → st ∈ ordersL → ClOk n cls → (∀ b M', Sub M M' → (b = true ↔ ∀ s, RchS n st s → wrongS cls s = false) → Q (.bl b) M') → C f [.int n, kpU st cls] M Q
end
end Pl

set_option maxHeartbeats 1000000
/-! k80: shortest rows in plain Lean -/
namespace Pl
open PySem L2 K79
section
variable (n : Nat) (st : List Str) (cls : List Int)
def w1 (s : S2) : Bool := (smAll n st).any fun a => wrongS cls (smStep st s a)
def w2 (s : S2) : Bool := (smAll n st).any fun a => w1 n st cls (smStep st s a)
def dst (s : S2) : Option Nat := if wrongS cls s = true then some 0 else if w1 n st cls s = true then some 1 else if w2 n st cls s = true then some 2 else none
def rowD (s : S2) : List Sm := match dst n st cls s with
  | some 1 => ((smAll n st).find? fun a => wrongS cls (smStep st s a)).toList
  | some 2 => (match (smAll n st).find? fun a => decide (dst n st cls (smStep st s a) = some 1) with
    | some a => a :: ((smAll n st).find? fun b => wrongS cls (smStep st (smStep st s a) b)).toList
    | none => [])
  | _ => []
end
section
variable {n : Nat} {st : List Str} {cls : List Int}
/-- three stores are never wanted -/
theorem three {s : S2} {a b c : Sm} (ha : a ∈ smAll n st) (hb : b ∈ smAll n st) (hc : c ∈ smAll n st) : (∃ x ∈ smAll n st, smStep st (smStep st (smStep st s a) b) c = smStep st s x) ∨ ∃ x ∈ smAll n st, ∃ y ∈ smAll n st, smStep st (smStep st (smStep st s a) b) c = smStep st (smStep st s x) y := by
  have one : ∀ x ∈ smAll n st, smStep st (smStep st (smStep st s a) b) c = smStep st s x → (∃ x ∈ smAll n st, smStep st (smStep st (smStep st s a) b) c = smStep st s x) ∨ ∃ x ∈ smAll n st, ∃ y ∈ smAll n st, smStep st (smStep st (smStep st s a) b) c = smStep st (smStep st s x) y := fun x hx e => .inl ⟨x, hx, e⟩
  have two : ∀ x ∈ smAll n st, ∀ y ∈ smAll n st, smStep st (smStep st (smStep st s a) b) c = smStep st (smStep st s x) y → (∃ x ∈ smAll n st, smStep st (smStep st (smStep st s a) b) c = smStep st s x) ∨ ∃ x ∈ smAll n st, ∃ y ∈ smAll n st, smStep st (smStep st (smStep st s a) b) c = smStep st (smStep st s x) y := fun x hx y hy e => .inr ⟨x, hx, y, hy, e⟩
  simp only [step_eff] at one two ⊢
  cases hc1 : (eff st c).1 with
  | some p =>
    cases hc2 : (eff st c).2 with
    | some q => exact one c hc (by simp [aft, hc1, hc2])
    | none =>
      cases hb2 : (eff st b).2 with
      | some q => exact two b hb c hc (by simp [aft, hc1, hc2, hb2])
      | none => exact two a ha c hc (by simp [aft, hc1, hc2, hb2])
  | none =>
    cases hc2 : (eff st c).2 with
    | some q =>
      cases hb1 : (eff st b).1 with
      | some p => exact two b hb c hc (by simp [aft, hc1, hc2, hb1])
      | none => exact two a ha c hc (by simp [aft, hc1, hc2, hb1])
    | none => exact two a ha b hb (by simp [aft, hc1, hc2])
theorem w1_iff {s : S2} : w1 n st cls s = true ↔ ∃ a ∈ smAll n st, wrongS cls (smStep st s a) = true := by unfold w1; rw [List.any_eq_true]
theorem w2_iff {s : S2} : w2 n st cls s = true ↔ ∃ a ∈ smAll n st, ∃ b ∈ smAll n st, wrongS cls (smStep st (smStep st s a) b) = true := by
  unfold w2
  rw [List.any_eq_true]
  exact ⟨fun ⟨a, ha, h⟩ => ⟨a, ha, w1_iff.mp h⟩, fun ⟨a, ha, h⟩ => ⟨a, ha, w1_iff.mpr h⟩⟩
theorem w3_no {s : S2} {a : Sm} (ha : a ∈ smAll n st) (h : w2 n st cls (smStep st s a) = true) : w1 n st cls s = true ∨ w2 n st cls s = true := by
  obtain ⟨b, hb, c, hc, h⟩ := w2_iff.mp h
  rcases three (s := s) ha hb hc with ⟨x, hx, e⟩ | ⟨x, hx, y, hy, e⟩
  · exact .inl (w1_iff.mpr ⟨x, hx, by rw [← e]; exact h⟩)
  · exact .inr (w2_iff.mpr ⟨x, hx, y, hy, by rw [← e]; exact h⟩)
theorem dst0 {s : S2} : dst n st cls s = some 0 ↔ wrongS cls s = true := by
  unfold dst
  by_cases h : wrongS cls s = true
  · simp [h]
  · rw [if_neg h]
    constructor
    · intro z
      split at z
      · cases z
      · split at z <;> cases z
    · exact fun z => absurd z h
theorem dst1 {s : S2} : dst n st cls s = some 1 ↔ wrongS cls s = false ∧ w1 n st cls s = true := by
  unfold dst
  by_cases h : wrongS cls s = true
  · simp [h]
  · rw [if_neg h]
    have h' : wrongS cls s = false := by simpa using h
    by_cases g : w1 n st cls s = true
    · simp [h', g]
    · rw [if_neg g]
      constructor
      · intro z
        split at z <;> cases z
      · exact fun z => absurd z.2 g
theorem dst2 {s : S2} : dst n st cls s = some 2 ↔ wrongS cls s = false ∧ w1 n st cls s = false ∧ w2 n st cls s = true := by
  unfold dst
  by_cases h : wrongS cls s = true
  · simp [h]
  · rw [if_neg h]
    have h' : wrongS cls s = false := by simpa using h
    by_cases g : w1 n st cls s = true
    · simp [h', g]
    · rw [if_neg g]
      have g' : w1 n st cls s = false := by simpa using g
      by_cases k : w2 n st cls s = true
      · simp [h', g', k]
      · simp [h', g', k]
theorem dst_le {s : S2} {m : Nat} (h : dst n st cls s = some m) : m ≤ 2 := by
  unfold dst at h
  split at h
  · cases h; decide
  · split at h
    · cases h; decide
    · split at h
      · cases h; decide
      · cases h
/-- one more store away -/
theorem dst_succ {s : S2} {m : Nat} (hs : ∀ k, dst n st cls s = some k → m < k) : (∃ a ∈ smAll n st, dst n st cls (smStep st s a) = some m) ↔ dst n st cls s = some (m + 1) := by
  have n0 : wrongS cls s = false := by
    cases h : wrongS cls s with
    | false => rfl
    | true => exact absurd (hs 0 (dst0.mpr h)) (Nat.not_lt_zero _)
  match m with
  | 0 =>
    rw [show (0 + 1 : Nat) = 1 from rfl, dst1, w1_iff]
    exact ⟨fun ⟨a, ha, h⟩ => ⟨n0, a, ha, dst0.mp h⟩, fun ⟨_, a, ha, h⟩ => ⟨a, ha, dst0.mpr h⟩⟩
  | 1 =>
    have n1 : w1 n st cls s = false := by
      cases h : w1 n st cls s with
      | false => rfl
      | true => exact absurd (hs 1 (dst1.mpr ⟨n0, h⟩)) (Nat.lt_irrefl _)
    rw [show (1 + 1 : Nat) = 2 from rfl, dst2]
    constructor
    · rintro ⟨a, ha, h⟩
      obtain ⟨b, hb, h⟩ := w1_iff.mp (dst1.mp h).2
      exact ⟨n0, n1, w2_iff.mpr ⟨a, ha, b, hb, h⟩⟩
    · rintro ⟨_, _, h⟩
      obtain ⟨a, ha, b, hb, h⟩ := w2_iff.mp h
      refine ⟨a, ha, dst1.mpr ⟨?_, w1_iff.mpr ⟨b, hb, h⟩⟩⟩
      cases z : wrongS cls (smStep st s a) with
      | false => rfl
      | true => rw [w1_iff.mpr ⟨a, ha, z⟩] at n1; cases n1
  | m + 2 =>
    constructor
    · rintro ⟨a, ha, h⟩
      exfalso
      have hm := dst_le h
      have hm : m = 0 := by omega
      subst hm
      rcases w3_no ha (dst2.mp h).2.2 with z | z
      · exact absurd (hs 1 (dst1.mpr ⟨n0, z⟩)) (by decide)
      · cases z1 : w1 n st cls s with
        | true => exact absurd (hs 1 (dst1.mpr ⟨n0, z1⟩)) (by decide)
        | false => exact absurd (hs 2 (dst2.mpr ⟨n0, z1, z⟩)) (by decide)
    · intro h
      have := dst_le h
      omega
theorem find_split {α : Type} {p : α → Bool} {don rest : List α} {x : α} {l : List α} (e : don ++ x :: rest = l) (hx : p x = true) (hd : ∀ y ∈ don, p y = false) : l.find? p = some x := by
  subst e
  rw [List.find?_append, List.find?_eq_none.mpr (fun y hy => by rw [hd y hy]; decide)]
  simp [hx]
/-- the row as it is walked -/
theorem rowD_cons {s : S2} {m : Nat} (h : dst n st cls s = some (m + 1)) : ∃ don a rest, don ++ a :: rest = smAll n st ∧ dst n st cls (smStep st s a) = some m ∧ (∀ b ∈ don, dst n st cls (smStep st s b) ≠ some m) ∧ rowD n st cls s = a :: rowD n st cls (smStep st s a) := by
  have hle := dst_le h
  have split1 : ∀ (p : Sm → Bool), (∃ a ∈ smAll n st, p a = true) → ∃ don a rest, don ++ a :: rest = smAll n st ∧ p a = true ∧ (∀ b ∈ don, p b = false) := fun p hp => by
    obtain ⟨a, ha⟩ : ∃ a, (smAll n st).find? p = some a := by
      cases e : (smAll n st).find? p with
      | some a => exact ⟨a, rfl⟩
      | none =>
        obtain ⟨a, ha, h⟩ := hp
        exact absurd h (List.find?_eq_none.mp e a ha)
    obtain ⟨h1, don, rest, h2, h3⟩ := List.find?_eq_some_iff_append.mp ha
    exact ⟨don, a, rest, h2.symm, h1, fun b hb => by simpa using h3 b hb⟩
  match m with
  | 0 =>
    obtain ⟨h0, h1⟩ := dst1.mp h
    obtain ⟨don, a, rest, e1, e2, e3⟩ := split1 (fun a => wrongS cls (smStep st s a)) (w1_iff.mp h1)
    refine ⟨don, a, rest, e1, dst0.mpr e2, fun b hb z => ?_, ?_⟩
    · have := e3 b hb
      rw [dst0.mp z] at this
      cases this
    · unfold rowD
      rw [h, dst0.mpr e2]
      show ((smAll n st).find? fun a => wrongS cls (smStep st s a)).toList = [a]
      rw [find_split e1 e2 e3]
      rfl
  | 1 =>
    obtain ⟨h0, h1, h2⟩ := dst2.mp h
    have hd : ∃ a ∈ smAll n st, decide (dst n st cls (smStep st s a) = some 1) = true := by
      obtain ⟨a, ha, z⟩ := (dst_succ (m := 1) (s := s) (fun k hk => by rw [h] at hk; cases hk; decide)).mpr h
      exact ⟨a, ha, decide_eq_true z⟩
    obtain ⟨don, a, rest, e1, e2, e3⟩ := split1 (fun a => decide (dst n st cls (smStep st s a) = some 1)) hd
    refine ⟨don, a, rest, e1, of_decide_eq_true e2, fun b hb z => ?_, ?_⟩
    · exact absurd z (of_decide_eq_false (e3 b hb))
    · conv => lhs; unfold rowD
      conv => rhs; unfold rowD
      rw [h, of_decide_eq_true e2]
      show (match (smAll n st).find? fun a => decide (dst n st cls (smStep st s a) = some 1) with
        | some a => a :: ((smAll n st).find? fun b => wrongS cls (smStep st (smStep st s a) b)).toList
        | none => []) = _
      rw [find_split e1 e2 e3]
      rfl
  | m + 2 => omega
theorem rowD_nil {s : S2} (h : dst n st cls s = some 0) : rowD n st cls s = [] := by unfold rowD; rw [h]; rfl
/-! the program's walk: the first discoverer stands first -/
structure BE (n : Nat) (st : List Str) (cls : List Int) (D : List Row) (place : Nat) : Prop where
  bd : BD n st cls D place
  fo : ∀ (j : Nat) (d : Row) (a : Sm), D[j]? = some d → d.2 = [a] → ∃ don rest, don ++ a :: rest = smAll n st ∧ ∀ b ∈ don, ∃ i e, i < j ∧ D[i]? = some e ∧ e.1 = smStep st S0 b
theorem BE.init (n : Nat) (st : List Str) (cls : List Int) : BE n st cls [(S0, [])] 0 := ⟨BD.init n st cls, fun j d a hj h2 => by
  have := List.mem_of_getElem? hj
  rw [List.mem_singleton] at this
  subst this
  cases h2⟩
theorem nd_at {α : Type} : ∀ (l : List α), l.Nodup → ∀ {i j : Nat} {x : α}, l[i]? = some x → l[j]? = some x → i = j
  | [], _, i, j, x, h, _ => by simp at h
  | y :: l, nd, 0, 0, x, _, _ => rfl
  | y :: l, nd, 0, j + 1, x, h, g => by
    have h : y = x := by simpa using h
    have g : l[j]? = some x := by simpa using g
    rw [List.nodup_cons] at nd
    exact absurd (List.mem_of_getElem? g) (by rw [← h]; exact nd.1)
  | y :: l, nd, i + 1, 0, x, h, g => by
    have g : y = x := by simpa using g
    have h : l[i]? = some x := by simpa using h
    rw [List.nodup_cons] at nd
    exact absurd (List.mem_of_getElem? h) (by rw [← g]; exact nd.1)
  | y :: l, nd, i + 1, j + 1, x, h, g => by
    rw [List.nodup_cons] at nd
    rw [nd_at l nd.2 (i := i) (j := j) (x := x) (by simpa using h) (by simpa using g)]
theorem BD.start_only {D : List Row} {place : Nat} (h : BD n st cls D place) {j : Nat} {d : Row} (hj : D[j]? = some d) (h2 : d.2 = []) : j = 0 := by
  have hr := (h.row d (List.mem_of_getElem? hj)).1
  rw [h2] at hr
  have e1 : d.1 = S0 := hr.symm
  have hl := (List.getElem?_eq_some_iff.mp hj).1
  have h0 := h.st0
  have hl0 := (List.getElem?_eq_some_iff.mp h0).1
  have nd := h.nd
  refine nd_at (D.map (·.1)) nd (x := S0) ?_ ?_
  · rw [List.getElem?_map, hj]; exact congrArg some e1
  · rw [List.getElem?_map, h0]; rfl
theorem BE.add {D : List Row} {place : Nat} {d : Row} {don rest : List Sm} {sm : Sm} (h : BE n st cls D place) (o : Opening n st D place d don) (e : don ++ sm :: rest = smAll n st) (hx : smStep st d.1 sm ∉ D.map (·.1)) (hw : wrongS cls (smStep st d.1 sm) = false) :
    BE n st cls (D ++ [(smStep st d.1 sm, d.2 ++ [sm])]) place ∧ Opening n st (D ++ [(smStep st d.1 sm, d.2 ++ [sm])]) place d (don ++ [sm]) := by
  have hm : sm ∈ smAll n st := by rw [← e]; simp
  obtain ⟨b2, o2⟩ := h.bd.add o hm hx hw
  refine ⟨⟨b2, fun j e' a hj h2 => ?_⟩, o2⟩
  have lift : ∀ {i : Nat} {x : Row}, D[i]? = some x → (D ++ [(smStep st d.1 sm, d.2 ++ [sm])])[i]? = some x := fun {i x} hi => by rw [List.getElem?_append_left (List.getElem?_eq_some_iff.mp hi).1]; exact hi
  by_cases hj2 : j < D.length
  · rw [List.getElem?_append_left hj2] at hj
    obtain ⟨dn, rs, q1, q2⟩ := h.fo j e' a hj h2
    exact ⟨dn, rs, q1, fun b hb => by
      obtain ⟨i, x, x1, x2, x3⟩ := q2 b hb
      exact ⟨i, x, x1, lift x2, x3⟩⟩
  · have hjl := (List.getElem?_eq_some_iff.mp hj).1
    rw [List.length_append, List.length_singleton] at hjl
    have hjD : j = D.length := by omega
    subst hjD
    rw [List.getElem?_append_right (Nat.le_refl _), Nat.sub_self] at hj
    have hj := (Option.some.inj hj).symm
    subst hj
    have h2 : d.2 ++ [sm] = [a] := h2
    cases hd2 : d.2 with
    | cons y ys => rw [hd2] at h2; simp at h2
    | nil =>
      rw [hd2] at h2
      have ea : sm = a := by simpa using h2
      subst ea
      have hp := h.bd.start_only o.at_ hd2
      have hd1 : d.1 = S0 := by
        have := (h.bd.row d (List.mem_of_getElem? o.at_)).1
        rw [hd2] at this
        exact this.symm
      refine ⟨don, rest, e, fun b hb => ?_⟩
      have hin := o.ex b hb
      rw [hd1] at hin
      obtain ⟨x, hx1, hx2⟩ := List.mem_map.mp hin
      obtain ⟨i, hi, ex⟩ := List.getElem_of_mem hx1
      refine ⟨i, x, hi, ?_, hx2⟩
      have := lift (i := i) (x := x) (by rw [List.getElem?_eq_getElem hi, ex])
      rw [hd2] at this
      exact this
theorem BE.next {D : List Row} {place : Nat} {d : Row} (h : BE n st cls D place) (o : Opening n st D place d (smAll n st)) : BE n st cls D (place + 1) := ⟨h.bd.next o, h.fo⟩
/-- what is told of a wrong state is the first shortest row -/
theorem BE.bad {D : List Row} {place : Nat} {d : Row} {don rest : List Sm} {sm : Sm} (h : BE n st cls D place) (o : Opening n st D place d don) (e : don ++ sm :: rest = smAll n st) (hx : smStep st d.1 sm ∉ D.map (·.1)) (hw : wrongS cls (smStep st d.1 sm) = true) :
    dst n st cls S0 ≠ none ∧ d.2 ++ [sm] = rowD n st cls S0 := by
  have hm : sm ∈ smAll n st := by rw [← e]; simp
  have hdm := List.mem_of_getElem? o.at_
  have hl := h.bd.len_le o.at_ hm hx
  have hrow := (h.bd.row d hdm).1
  have notw : ∀ s ∈ D.map (·.1), wrongS cls s = false := fun s hs => by
    obtain ⟨x, hx1, rfl⟩ := List.mem_map.mp hs
    exact h.bd.ok x hx1
  have n0 : wrongS cls S0 = false := h.bd.ok _ (List.mem_of_getElem? h.bd.st0)
  have hdon : ∀ b ∈ don, wrongS cls (smStep st d.1 b) = false := fun b hb => notw _ (o.ex b hb)
  cases hd2 : d.2 with
  | nil =>
    rw [hd2] at hrow
    have hd1 : d.1 = S0 := hrow.symm
    rw [hd1] at hw hdon
    have h1 : dst n st cls S0 = some 1 := dst1.mpr ⟨n0, w1_iff.mpr ⟨sm, hm, hw⟩⟩
    refine ⟨by rw [h1]; simp, ?_⟩
    unfold rowD
    rw [h1]
    show _ = ((smAll n st).find? fun a => wrongS cls (smStep st S0 a)).toList
    rw [find_split e hw hdon]
    rfl
  | cons a ys =>
    have hys : ys = [] := by rw [hd2] at hl; simp at hl; exact hl
    subst hys
    rw [hd2] at hrow
    have hd1 : d.1 = smStep st S0 a := hrow.symm
    have hp : 0 < place := by
      rcases Nat.eq_zero_or_pos place with z | z
      · have hat := o.at_
        rw [z, h.bd.st0] at hat
        rw [← Option.some.inj hat] at hd2
        cases hd2
      · exact z
    have n1 : w1 n st cls S0 = false := by
      cases z : w1 n st cls S0 with
      | false => rfl
      | true =>
        obtain ⟨x, hx1, hx2⟩ := w1_iff.mp z
        rw [notw _ (h.bd.ex 0 _ hp h.bd.st0 x hx1)] at hx2
        cases hx2
    obtain ⟨dn, rs, q1, q2⟩ := h.fo place d a o.at_ hd2
    have ha : a ∈ smAll n st := by rw [← q1]; simp
    rw [hd1] at hw hdon
    have h2 : dst n st cls S0 = some 2 := dst2.mpr ⟨n0, n1, w2_iff.mpr ⟨a, ha, sm, hm, hw⟩⟩
    have wa : wrongS cls (smStep st S0 a) = false := by
      rw [← hd1]; exact h.bd.ok d hdm
    have hda : dst n st cls (smStep st S0 a) = some 1 := dst1.mpr ⟨wa, w1_iff.mpr ⟨sm, hm, hw⟩⟩
    refine ⟨by rw [h2]; simp, ?_⟩
    unfold rowD
    rw [h2]
    show _ = (match (smAll n st).find? fun a => decide (dst n st cls (smStep st S0 a) = some 1) with
      | some a => a :: ((smAll n st).find? fun b => wrongS cls (smStep st (smStep st S0 a) b)).toList
      | none => [])
    rw [find_split (p := fun a => decide (dst n st cls (smStep st S0 a) = some 1)) q1 (decide_eq_true hda) fun b hb => decide_eq_false fun z => ?_]
    · show _ = a :: ((smAll n st).find? fun b => wrongS cls (smStep st (smStep st S0 a) b)).toList
      rw [find_split e hw hdon]
      rfl
    · obtain ⟨i, x, x1, x2, x3⟩ := q2 b hb
      obtain ⟨c, hc, hc2⟩ := w1_iff.mp (dst1.mp z).2
      rw [← x3, notw _ (h.bd.ex i x x1 x2 c hc)] at hc2
      cases hc2
/-- at the end -/
theorem BE.all {D : List Row} (h : BE n st cls D D.length) : ∀ s, s ∈ D.map (·.1) ↔ RchS n st s := fun s => ⟨fun hs => by
  obtain ⟨d, hd, rfl⟩ := List.mem_map.mp hs
  exact h.bd.rch d hd, fun hs => rch_closed (List.mem_map.mpr ⟨_, List.mem_of_getElem? h.bd.st0, rfl⟩) (fun x hx sm hm => by
    obtain ⟨d, hd, rfl⟩ := List.mem_map.mp hx
    obtain ⟨i, hi, e⟩ := List.getElem_of_mem hd
    exact h.bd.ex i d hi (by rw [List.getElem?_eq_getElem hi, e]) sm hm) hs⟩
theorem safe_none (h : ∀ s, RchS n st s → wrongS cls s = false) : dst n st cls S0 = none := by
  have n0 := h S0 .start
  have n1 : w1 n st cls S0 = false := by
    cases z : w1 n st cls S0 with
    | false => rfl
    | true =>
      obtain ⟨x, hx1, hx2⟩ := w1_iff.mp z
      exact absurd ((h _ (.step .start hx1)).symm.trans hx2) (by decide)
  have n2 : w2 n st cls S0 = false := by
    cases z : w2 n st cls S0 with
    | false => rfl
    | true =>
      obtain ⟨x, hx1, y, hy1, hx2⟩ := w2_iff.mp z
      exact absurd ((h _ (.step (.step .start hx1) hy1)).symm.trans hx2) (by decide)
  unfold dst
  rw [n0, n1, n2]
  rfl
end
end Pl

set_option maxHeartbeats 1000000
/-! the walks of the cut tables, the steps as a tuple that may be anywhere: printed by wip/mk80d.py -/
namespace Pl.Tq
open PySem L2 K79
def stT (st : List Str) : U := .tup (st.map U.str)
def kpT (st : List Str) (cls : List Int) : U := .tup [.tup (st.map U.str), .tup (cls.map U.int)]
section
variable {C : CE} {nx bk ct : SU → Hm → Prop} {rt : QU} {M : Hm}
theorem small_writes_ok {st : List Str} {c : Int} (hst : st.length ≤ 3) (hq : ∀ M', Sub M M' → rt (.tup ((smW st c).map U.str)) M') : wS C B_small_writes ⟨nx, rt, bk, ct⟩ (startU 3 [.tup (st.map U.str), .int c]) M := by
  have hlim : LIM = 100000 := rfl
  unfold B_small_writes
  (repeat decreasing_trivial_pre_omega)
  refine compL_by (enc := U.str) (fun don rest acc M' => M' = M ∧ acc = (smW don c).map U.str) st ⟨rfl, rfl⟩ ?_ ?_
  · intro don w rest acc M1 k e ⟨e1, e2⟩ hk
    subst e1 e2
    have hdl : don.length + rest.length + 1 = st.length := by rw [← e]; simp; omega
    have hsl : (smW don c).length ≤ don.length := List.length_filter_le _ _
    have yes : (decide (w ≠ "files") || decide (c ≠ -1)) = true → smW (don ++ [w]) c = smW don c ++ [w] := fun h => by unfold smW; rw [List.filter_append, List.filter_cons, if_pos h]; rfl
    have no : ¬ ((decide (w ≠ "files") || decide (c ≠ -1)) = true) → smW (don ++ [w]) c = smW don c := fun h => by unfold smW; rw [List.filter_append, List.filter_cons, if_neg h]; simp
    (repeat decreasing_trivial_pre_omega)
    by_cases h1 : w = "files"
    · refine i_ift (decide_eq_true h1) ?_
      (repeat decreasing_trivial_pre_omega)
      by_cases h2 : c = -1
      · refine i_ift (decide_eq_true h2) ?_
        refine hk _ _ trivial (fun z => by cases z) ⟨rfl, ?_⟩
        rw [no (by simp [h1, h2])]
        simp
      · refine i_iff (decide_eq_false h2) ?_
        (repeat decreasing_trivial_pre_omega)
        refine hk _ _ trivial (fun _ => by rw [List.length_map]; omega) ⟨rfl, ?_⟩
        rw [yes (by simp [h2])]
        simp
    · refine i_iff (decide_eq_false h1) ?_
      (repeat decreasing_trivial_pre_omega)
      refine hk _ _ trivial (fun _ => by rw [List.length_map]; omega) ⟨rfl, ?_⟩
      rw [yes (by simp [h1])]
      simp
  · intro acc M1 ⟨e1, e2⟩
    subst e1 e2
    intro q hq0
    (repeat decreasing_trivial_pre_omega)
    exact hq _ (sub_new (Sub.refl _) hq0)
def SmWC (C : CE) (f : Nat) : Prop := ∀ (st : List Str) (c : Int), st.length ≤ 3 → Ret C f [.tup (st.map U.str), .int c] (.tup ((smW st c).map U.str))
theorem small_step_ok {fd fw : Nat} (hd : DoneC C fd) (hw : SmWC C fw) {st : List Str} {s : S2} {sm : Sm} (hst : st.length ≤ 3) (hq : ∀ M', Sub M M' → rt (encS2 (smStep st s sm)) M') :
    wS C (B_small_step fd fw) ⟨nx, rt, bk, ct⟩ (startU 11 [.tup (st.map U.str), encS2 s, encSm sm]) M := by
  have hlim : LIM = 100000 := rfl
  have hwl := smW_len st sm.1
  unfold B_small_step encS2 encSm
  (repeat decreasing_trivial_pre_omega)
  refine hw st sm.1 hst M _ fun M1 s1 => ?_
  (repeat decreasing_trivial_pre_omega)
  rw [List.length_map]
  refine hd M1 _ sm.2 _ ?_
  have hlt := fun z => doneN_lt (m := (smW st sm.1).length) (cut := sm.2) z
  have hle := doneN_le (smW st sm.1).length sm.2
  have eS : smStep st s sm = if (doneN (smW st sm.1).length sm.2).2 = true then smTear (((smW st sm.1).take (doneN (smW st sm.1).length sm.2).1).foldl (smPut sm.1) s) (smW st sm.1)[(doneN (smW st sm.1).length sm.2).1]? else ((smW st sm.1).take (doneN (smW st sm.1).length sm.2).1).foldl (smPut sm.1) s := rfl
  rw [eS] at hq
  generalize doneN (smW st sm.1).length sm.2 = D at *
  obtain ⟨m, b⟩ := D
  dsimp only at hlt hle hq ⊢
  (repeat decreasing_trivial_pre_omega)
  rw [cutU_take, ← List.map_take]
  (repeat decreasing_trivial_pre_omega)
  refine forL_by (enc := U.str) (fun don rest σ M' => M' = M1 ∧ ∃ u10, σ = [some (.tup (st.map U.str)), some (.tup [.int s.1, .int s.2]), some (.tup [.int sm.1, cutV sm.2]), some (.int (don.foldl (smPut sm.1) s).1), some (.int (don.foldl (smPut sm.1) s).2), some (.int sm.1), some (cutV sm.2), some (.tup ((smW st sm.1).map U.str)), some (.int m), some (.bl b), u10]) ((smW st sm.1).take m) ⟨rfl, _, rfl⟩ ?_ ?_
  · intro don w rest σ M2 k e ⟨e1, u10, e2⟩ hk
    subst e1 e2
    have hf : (don ++ [w]).foldl (smPut sm.1) s = smPut sm.1 (don.foldl (smPut sm.1) s) w := by rw [List.foldl_append]; rfl
    generalize don.foldl (smPut sm.1) s = t at *
    (repeat decreasing_trivial_pre_omega)
    by_cases h1 : w = "files"
    · refine i_ift (decide_eq_true h1) ?_
      (repeat decreasing_trivial_pre_omega)
      refine hk _ _ trivial ⟨rfl, some (.str w), ?_⟩
      rw [hf]
      unfold smPut
      rw [if_pos h1]
      rfl
    · refine i_iff (decide_eq_false h1) ?_
      (repeat decreasing_trivial_pre_omega)
      by_cases h2 : w = "paper"
      · refine i_ift (decide_eq_true h2) ?_
        (repeat decreasing_trivial_pre_omega)
        refine hk _ _ trivial ⟨rfl, some (.str w), ?_⟩
        rw [hf]
        unfold smPut
        rw [if_neg h1, if_pos h2]
        rfl
      · refine i_iff (decide_eq_false h2) ?_
        (repeat decreasing_trivial_pre_omega)
        refine hk _ _ trivial ⟨rfl, some (.str w), ?_⟩
        rw [hf]
        unfold smPut
        rw [if_neg h1, if_neg h2]
        rfl
  · intro σ M2 ⟨e1, u10, e2⟩
    subst e1 e2
    generalize ((smW st sm.1).take m).foldl (smPut sm.1) s = t at *
    cases b with
    | false =>
      (repeat decreasing_trivial_pre_omega)
      exact hq _ s1
    | true =>
      have hl := hlt rfl
      obtain ⟨w, hwg⟩ : ∃ w, (smW st sm.1)[m]? = some w := ⟨_, List.getElem?_eq_getElem hl⟩
      rw [if_pos rfl, hwg] at hq
      (repeat decreasing_trivial_pre_omega)
      refine x_tup (v := .str w) (by rw [atI_nat (by rw [List.length_map]; exact hl), List.getElem_map, (List.getElem?_eq_some_iff.mp hwg).2]) ?_
      (repeat decreasing_trivial_pre_omega)
      by_cases h1 : w = "files"
      · refine i_ift (decide_eq_true h1) ?_
        (repeat decreasing_trivial_pre_omega)
        unfold smTear at hq
        rw [if_pos (by rw [h1])] at hq
        exact hq _ s1
      · refine i_iff (decide_eq_false h1) ?_
        (repeat decreasing_trivial_pre_omega)
        unfold smTear at hq
        rw [if_neg (fun z => h1 (Option.some.inj z))] at hq
        exact hq _ s1
def SmStepC (C : CE) (f : Nat) : Prop := ∀ (st : List Str) (s : S2) (sm : Sm), st.length ≤ 3 → Ret C f [.tup (st.map U.str), encS2 s, encSm sm] (encS2 (smStep st s sm))
theorem small_stores_ok {fc fw : Nat} (hc : CutsC C fc) (hw : SmWC C fw) {n : Nat} {st : List Str} (hn : n ≤ 4) (hst : st.length ≤ 3) (hq : ∀ M', Sub M M' → rt (.tup ((smAll n st).map encSm)) M') :
    wS C (B_small_stores fc fw) ⟨nx, rt, bk, ct⟩ (startU 5 [.int n, .tup (st.map U.str)]) M := by
  have hlim : LIM = 100000 := rfl
  unfold B_small_stores
  (repeat decreasing_trivial_pre_omega)
  intro q hq0
  (repeat decreasing_trivial_pre_omega)
  refine ⟨by omega, by omega, by omega, by omega, ?_⟩
  rw [rng_conts]
  have hcl : (conts n).length = n + 1 := by unfold conts; simp
  refine forL_by (enc := U.int) (fun don rest σ M' => (∃ u3 u4, σ = [some (.int n), some (.tup (st.map U.str)), some (.ref q), u3, u4]) ∧ Sub M M' ∧ M' q = some (.lst ((don.flatMap fun c => (smCuts (smW st c).length).map fun k => ((c, k) : Sm)).map encSm))) (conts n) ⟨⟨_, _, rfl⟩, sub_um (Sub.refl _) hq0, um_same⟩ ?_ ?_
  · intro don c rest σ M1 k e ⟨⟨u3, u4, e1⟩, s1, h1⟩ hk
    subst e1
    have hdl : don.length + rest.length + 1 = n + 1 := by rw [← hcl, ← e]; simp; omega
    have hal := smAll_len hst don
    have hwl := smW_len st c
    (repeat decreasing_trivial_pre_omega)
    refine hw st c hst M1 _ fun M2 s2 => ?_
    (repeat decreasing_trivial_pre_omega)
    rw [List.length_map]
    refine hc _ (by omega) M2 _ fun M3 s3 => ?_
    (repeat decreasing_trivial_pre_omega)
    refine forL_by (enc := cutV) (fun don2 rest2 σ M' => (∃ u4, σ = [some (.int n), some (.tup (st.map U.str)), some (.ref q), some (.int c), u4]) ∧ Sub M M' ∧ M' q = some (.lst (((don.flatMap fun c => (smCuts (smW st c).length).map fun k => ((c, k) : Sm)) ++ don2.map fun k => (c, k)).map encSm))) (smCuts (smW st c).length) ⟨⟨_, rfl⟩, (s1.trans s2).trans s3, by rw [s3 _ _ (s2 _ _ h1)]; simp⟩ ?_ ?_
    · intro don2 x rest2 σ M4 k2 e' ⟨⟨u4, e1⟩, s4, h4⟩ hk2
      subst e1
      have hl2 : don2.length + rest2.length + 1 = 2 * (smW st c).length + 1 := by rw [← smCuts_len, ← e']; simp; omega
      (repeat decreasing_trivial_pre_omega)
      refine m_app h4 (by simp only [List.length_map, List.length_append]; omega) ?_
      (repeat decreasing_trivial_pre_omega)
      refine hk2 _ _ trivial ⟨⟨_, rfl⟩, sub_um s4 hq0, ?_⟩
      rw [um_same]
      simp [encSm]
    · intro σ M4 ⟨⟨u4, e1⟩, s4, h4⟩
      subst e1
      refine hk _ _ trivial ⟨⟨_, _, rfl⟩, s4, ?_⟩
      rw [h4, List.flatMap_append]
      simp
  · intro σ M1 ⟨⟨u3, u4, e1⟩, s1, h1⟩
    subst e1
    (repeat decreasing_trivial_pre_omega)
    exact hq _ s1
def SmallsC (C : CE) (f : Nat) : Prop := ∀ (n : Nat) (st : List Str), n ≤ 4 → st.length ≤ 3 → Ret C f [.int n, .tup (st.map U.str)] (.tup ((smAll n st).map encSm))
theorem cut_table_ok {fi fs fa : Nat} (hI : WrongC C fi) (hS : SmStepC C fs) (hA : SmallsC C fa) {n : Nat} {st : List Str} {cls : List Int} (hn : n ≤ 4) (hst : st.length ≤ 3) (hc : ClOk n cls)
    (qs : ∀ (D : List S2) M', Sub M M' → D.Nodup → (∀ s, s ∈ D ↔ RchS n st s) → (∀ s, RchS n st s → wrongS cls s = false) → rt (.tup [.str "safe", .tup (sortU (D.map encS2))]) M')
    (qu : ∀ M', Sub M M' → dst n st cls S0 ≠ none → rt (.tup [.str "unsafe", encRow (rowD n st cls S0)]) M') :
    wS C (B_cut_table fi fs fa) ⟨nx, rt, bk, ct⟩ (startU 11 [.int n, kpT st cls]) M := by
  have hlim : LIM = 100000 := rfl
  unfold B_cut_table kpT
  (repeat decreasing_trivial_pre_omega)
  refine hA n st hn hst M _ fun M1 s1 => ?_
  (repeat decreasing_trivial_pre_omega)
  intro p hp
  (repeat decreasing_trivial_pre_omega)
  refine ⟨um_same, rfl, ?_⟩
  (repeat decreasing_trivial_pre_omega)
  intro q hq0
  (repeat decreasing_trivial_pre_omega)
  have hpq : q ≠ p := um_noneN hq0
  have nn : ∀ a, M1 a = none → M a = none := fun a h => by
    cases e : M a with
    | none => rfl
    | some o => rw [s1 _ _ e] at h; cases h
  have hpM := nn p hp
  have hqM0 := nn q (um_none (um_none hq0))
  refine z_whl (W := fun m σ M' => ∃ (D : List Row) (place : Nat) (u8 u9 u10 : Option U), m = 50 - place ∧ BE n st cls D place ∧ σ = [some (.int n), some (.tup [.tup (st.map U.str), .tup (cls.map U.int)]), some (.tup (st.map U.str)), some (.tup (cls.map U.int)), some (.tup ((smAll n st).map encSm)), some (.ref p), some (.ref q), some (.int place), u8, u9, u10] ∧
      M' p = some (.dcn (amap encS2 encRow D)) ∧ M' q = some (.lst ((D.map (·.1)).map encS2)) ∧ Sub M M') ⟨_, [(S0, [])], 0, none, none, none, rfl, BE.init _ _ _, rfl, um_oth hpq.symm (by rw [um_um]; exact um_same), um_same, ?_⟩ ?_
  · exact sub_um (sub_um (sub_um s1 hpM) hpM) hqM0
  intro m σ M2 ⟨D, place, u8, u9, u10, em, bd, e1, hp2, hq2, s2⟩
  subst em e1
  have hl49 : D.length ≤ 49 := by
    have := rch_len hn bd.bd.nd fun s hs => by
      obtain ⟨d, hd, rfl⟩ := List.mem_map.mp hs
      exact bd.bd.rch d hd
    rwa [List.length_map] at this
  (repeat decreasing_trivial_pre_omega)
  rw [List.length_map, List.length_map]
  by_cases hpl : place < D.length
  · refine i_ift (decide_eq_true (by omega)) ?_
    (repeat decreasing_trivial_pre_omega)
    obtain ⟨d, hdg⟩ : ∃ d, D[place]? = some d := ⟨_, List.getElem?_eq_getElem hpl⟩
    have hdm := List.mem_of_getElem? hdg
    refine x_lst (v := encS2 d.1) hq2 (by rw [atI_nat (by rw [List.length_map, List.length_map]; exact hpl), List.getElem_map, List.getElem_map, (List.getElem?_eq_some_iff.mp hdg).2]) ?_
    (repeat decreasing_trivial_pre_omega)
    refine forL_by (enc := encSm) (fun don rest σ M' => ∃ (D : List Row) (u9 u10 : Option U), BE n st cls D place ∧ Opening n st D place d don ∧ σ = [some (.int n), some (.tup [.tup (st.map U.str), .tup (cls.map U.int)]), some (.tup (st.map U.str)), some (.tup (cls.map U.int)), some (.tup ((smAll n st).map encSm)), some (.ref p), some (.ref q), some (.int (place + 1)), some (encS2 d.1), u9, u10] ∧
      M' p = some (.dcn (amap encS2 encRow D)) ∧ M' q = some (.lst ((D.map (·.1)).map encS2)) ∧ Sub M M') (smAll n st) ⟨D, u9, u10, bd, ⟨hdg, fun _ z => nomatch z⟩, rfl, hp2, hq2, s2⟩ ?_ ?_
    · clear hdg hpl hq2 hp2 s2 hl49
      clear bd
      intro don sm rest σ M3 k e ⟨D, u9, u10, bd, op, e1, hp3, hq3, s3⟩ hk
      subst e1
      have hsm : sm ∈ smAll n st := by rw [← e]; simp
      have hl49 : D.length ≤ 49 := by
        have := rch_len hn bd.bd.nd fun s hs => by
          obtain ⟨d, hd, rfl⟩ := List.mem_map.mp hs
          exact bd.bd.rch d hd
        rwa [List.length_map] at this
      have hdm := List.mem_of_getElem? op.at_
      have hd2 := bd.bd.len2 d hdm
      (repeat decreasing_trivial_pre_omega)
      refine hS st d.1 sm hst M3 _ fun M4 s4 => ?_
      have hp4 := s4 _ _ hp3
      have hq4 := s4 _ _ hq3
      have s5 := s3.trans s4
      (repeat decreasing_trivial_pre_omega)
      refine nin_dcn hp4 rfl ?_
      rw [dfind_amap encS2_inj, Option.isSome_map, aget_isSome]
      by_cases hx : smStep st d.1 sm ∈ D.map (·.1)
      · rw [if_neg (by simpa using hx)]
        (repeat decreasing_trivial_pre_omega)
        exact hk _ _ trivial ⟨D, _, _, bd, BD.skip op hx, rfl, hp4, hq4, s5⟩
      · rw [if_pos (by simpa using hx)]
        (repeat decreasing_trivial_pre_omega)
        refine x_dcn (v := encRow d.2) hp4 rfl (by rw [dfind_amap encS2_inj, aget_of_mem bd.bd.nd hdm]; rfl) ?_
        unfold encRow
        (repeat decreasing_trivial_pre_omega)
        refine o_addT (by simp; omega) ?_
        (repeat decreasing_trivial_pre_omega)
        refine st_dcn hp4 rfl (by rw [amap_len]; omega) ?_
        have er : U.tup (d.2.map encSm ++ [encSm sm]) = encRow (d.2 ++ [sm]) := by unfold encRow; simp
        rw [er, dput_amap encS2_inj, aput_new hx]
        have hq5 : (um M4 p (.dcn (amap encS2 encRow (D ++ [(smStep st d.1 sm, d.2 ++ [sm])])))) q = some (.lst ((D.map (·.1)).map encS2)) := um_oth hpq hq4
        (repeat decreasing_trivial_pre_omega)
        refine m_app hq5 (by simp; omega) ?_
        have hg : GrS n (smStep st d.1 sm) := step_grid (rch_grid (bd.bd.rch d hdm)) hsm
        have s6 : Sub M (um (um M4 p (.dcn (amap encS2 encRow (D ++ [(smStep st d.1 sm, d.2 ++ [sm])])))) q (.lst ((D.map (·.1)).map encS2 ++ [encS2 (smStep st d.1 sm)]))) := sub_um (sub_um s5 hpM) hqM0
        have hp6 : (um (um M4 p (.dcn (amap encS2 encRow (D ++ [(smStep st d.1 sm, d.2 ++ [sm])])))) q (.lst ((D.map (·.1)).map encS2 ++ [encS2 (smStep st d.1 sm)]))) p = some (.dcn (amap encS2 encRow (D ++ [(smStep st d.1 sm, d.2 ++ [sm])]))) := um_oth hpq.symm um_same
        have hq6 : (um (um M4 p (.dcn (amap encS2 encRow (D ++ [(smStep st d.1 sm, d.2 ++ [sm])])))) q (.lst ((D.map (·.1)).map encS2 ++ [encS2 (smStep st d.1 sm)]))) q = some (.lst ((D.map (·.1)).map encS2 ++ [encS2 (smStep st d.1 sm)])) := um_same
        generalize (um (um M4 p (.dcn (amap encS2 encRow (D ++ [(smStep st d.1 sm, d.2 ++ [sm])])))) q (.lst ((D.map (·.1)).map encS2 ++ [encS2 (smStep st d.1 sm)]))) = M6 at *
        (repeat decreasing_trivial_pre_omega)
        refine hI n cls _ hc hg M6 _ fun M7 s7 => ?_
        have hp7 := s7 _ _ hp6
        have hq7 := s7 _ _ hq6
        have s8 := s6.trans s7
        (repeat decreasing_trivial_pre_omega)
        cases hw : wrongS cls (smStep st d.1 sm) with
        | true =>
          (repeat decreasing_trivial_pre_omega)
          refine x_dcn (v := encRow (d.2 ++ [sm])) hp7 rfl (by rw [dfind_amap encS2_inj, ← aput_new hx, aget_aput, if_pos rfl]; rfl) ?_
          (repeat decreasing_trivial_pre_omega)
          obtain ⟨q1, q2⟩ := bd.bad op e hx hw
          rw [q2]
          exact qu _ s8 q1
        | false =>
          (repeat decreasing_trivial_pre_omega)
          obtain ⟨bd2, op2⟩ := bd.add op e hx hw
          exact hk _ _ trivial ⟨_, _, _, bd2, op2, rfl, hp7, by rw [hq7]; simp, s8⟩
    · intro σ M3 ⟨D, u9, u10, bd, op, e1, hp3, hq3, s3⟩
      subst e1
      have hpl := (List.getElem?_eq_some_iff.mp op.at_).1
      refine ⟨50 - (place + 1), ?_, D, place + 1, _, _, _, rfl, bd.next op, rfl, hp3, hq3, s3⟩
      omega
  · refine i_iff (decide_eq_false (by omega)) ?_
    (repeat decreasing_trivial_pre_omega)
    have ep : place = D.length := Nat.le_antisymm bd.bd.le (by omega)
    subst ep
    refine f_sortL hq2 (sortOk_S2 (by rw [List.length_map]; omega)) ?_
    intro a ha
    (repeat decreasing_trivial_pre_omega)
    exact qs _ _ (sub_new s2 ha) bd.bd.nd bd.all bd.bd.safe
theorem law_smalls_ok {n : Nat} {st : List Str} (hn : n ≤ 4) (ho : st ∈ ordersL) (hq : ∀ q M', M q = none → Sub M M' → M' q = some (.lst ((smAll n st).map encSm)) → rt (.ref q) M') :
    wS C B_law_smalls ⟨nx, rt, bk, ct⟩ (startU 5 [.int n, stT st]) M := by
  have hlim : LIM = 100000 := rfl
  have hst := ord_len ho
  unfold B_law_smalls stT
  (repeat decreasing_trivial_pre_omega)
  intro q hq0
  (repeat decreasing_trivial_pre_omega)
  refine ⟨by omega, by omega, by omega, by omega, ?_⟩
  rw [rng_conts]
  have hcl : (conts n).length = n + 1 := by unfold conts; simp
  refine forL_by (enc := U.int) (fun don rest σ M' => (∃ u3 u4, σ = [some (.int n), some (.tup (st.map U.str)), some (.ref q), u3, u4]) ∧ Sub M M' ∧ M' q = some (.lst ((don.flatMap fun c => (smCuts (smW st c).length).map fun k => ((c, k) : Sm)).map encSm))) (conts n) ⟨⟨_, _, rfl⟩, sub_um (Sub.refl _) hq0, um_same⟩ ?_ ?_
  · intro don c rest σ M1 k e ⟨⟨u3, u4, e1⟩, s1, h1⟩ hk
    subst e1
    have hdl : don.length + rest.length + 1 = n + 1 := by rw [← hcl, ← e]; simp; omega
    have hal := smAll_len hst don
    have hwl := smW_len st c
    have em : (((st.map U.str).length : Nat) : Int) - (if decide (c = -1) = true then 1 else 0) = ((smW st c).length : Nat) := by
      rw [List.length_map]
      by_cases h : c = -1
      · rw [if_pos (decide_eq_true h), h]; have := smW_short ho; omega
      · rw [if_neg (by simpa using h), smW_full h]; omega
    (repeat decreasing_trivial_pre_omega)
    rw [em]
    refine ⟨by omega, by omega, ?_⟩
    refine forL_nat (fun i σ M' => (∃ u4, σ = [some (.int n), some (.tup (st.map U.str)), some (.ref q), some (.int c), u4]) ∧ Sub M M' ∧ M' q = some (.lst (((don.flatMap fun c => (smCuts (smW st c).length).map fun k => ((c, k) : Sm)) ++ (((List.range i).flatMap fun i => [some (i, false), some (i, true)] : List Cut).map fun k => (c, k))).map encSm))) (smW st c).length ⟨⟨_, rfl⟩, s1, by rw [h1]; simp⟩ ?_ ?_
    · intro i σ M4 k2 hi ⟨⟨u4, e1⟩, s4, h4⟩ hk2
      subst e1
      have hl : ((List.range i).flatMap fun i => [some (i, false), some (i, true)] : List Cut).length = 2 * i := by
        have : ∀ l : List Nat, (l.flatMap fun i => [some (i, false), some (i, true)] : List Cut).length = 2 * l.length := fun l => by
          induction l with
          | nil => rfl
          | cons x l ih => rw [List.flatMap_cons, List.length_append, ih]; simp; omega
        rw [this, List.length_range]
      (repeat decreasing_trivial_pre_omega)
      refine m_app h4 (by rw [List.length_map, List.length_append, List.length_map, hl]; omega) ?_
      (repeat decreasing_trivial_pre_omega)
      refine m_app um_same (by rw [List.length_append, List.length_map, List.length_append, List.length_map, hl, List.length_singleton]; omega) ?_
      (repeat decreasing_trivial_pre_omega)
      refine hk2 _ _ trivial ⟨⟨_, rfl⟩, sub_um (sub_um s4 hq0) hq0, ?_⟩
      rw [um_same, List.range_succ, List.flatMap_append]
      simp [encSm, cutV]
    · intro σ M4 ⟨⟨u4, e1⟩, s4, h4⟩
      subst e1
      have hl : ((List.range (smW st c).length).flatMap fun i => [some (i, false), some (i, true)] : List Cut).length = 2 * (smW st c).length := by
        have := smCuts_len (smW st c).length
        unfold smCuts at this
        rw [List.length_append, List.length_singleton] at this
        omega
      (repeat decreasing_trivial_pre_omega)
      refine m_app h4 (by rw [List.length_map, List.length_append, List.length_map, hl]; omega) ?_
      (repeat decreasing_trivial_pre_omega)
      refine hk _ _ trivial ⟨⟨_, _, rfl⟩, sub_um s4 hq0, ?_⟩
      rw [um_same, List.flatMap_append]
      simp [encSm, cutV, smCuts]
  · intro σ M1 ⟨⟨u3, u4, e1⟩, s1, h1⟩
    subst e1
    (repeat decreasing_trivial_pre_omega)
    exact hq _ _ hq0 s1 h1
theorem law_effect_ok {st : List Str} (hst : st.length ≤ 3) (hw : StW st) {sm : Sm} (hq : ∀ M', Sub M M' → rt (encEf (eff st sm)) M') : wS C B_law_effect ⟨nx, rt, bk, ct⟩ (startU 7 [stT st, encSm sm]) M := by
  have hlim : LIM = 100000 := rfl
  obtain ⟨c, cut⟩ := sm
  unfold B_law_effect stT encSm
  dsimp only
  (repeat decreasing_trivial_pre_omega)
  refine compL_by (enc := U.str) (fun don rest acc M' => M' = M ∧ acc = (smW don c).map U.str) st ⟨rfl, rfl⟩ ?_ ?_
  · intro don w rest acc M1 k e ⟨e1, e2⟩ hk
    subst e1 e2
    have hdl : don.length + rest.length + 1 = st.length := by rw [← e]; simp; omega
    have hsl : (smW don c).length ≤ don.length := List.length_filter_le _ _
    have yes : (decide (w ≠ "files") || decide (c ≠ -1)) = true → smW (don ++ [w]) c = smW don c ++ [w] := fun h => by unfold smW; rw [List.filter_append, List.filter_cons, if_pos h]; rfl
    have no : ¬ ((decide (w ≠ "files") || decide (c ≠ -1)) = true) → smW (don ++ [w]) c = smW don c := fun h => by unfold smW; rw [List.filter_append, List.filter_cons, if_neg h]; simp
    (repeat decreasing_trivial_pre_omega)
    by_cases h1 : w = "files"
    · refine i_ift (decide_eq_true h1) ?_
      (repeat decreasing_trivial_pre_omega)
      by_cases h2 : c = -1
      · refine i_ift (decide_eq_true h2) ?_
        refine hk _ _ trivial (fun z => by cases z) ⟨rfl, ?_⟩
        rw [no (by simp [h1, h2])]
        simp
      · refine i_iff (decide_eq_false h2) ?_
        (repeat decreasing_trivial_pre_omega)
        refine hk _ _ trivial (fun _ => by rw [List.length_map]; omega) ⟨rfl, ?_⟩
        rw [yes (by simp [h2])]
        simp
    · refine i_iff (decide_eq_false h1) ?_
      (repeat decreasing_trivial_pre_omega)
      refine hk _ _ trivial (fun _ => by rw [List.length_map]; omega) ⟨rfl, ?_⟩
      rw [yes (by simp [h1])]
      simp
  intro acc M1 ⟨e1, e2⟩
  subst e1 e2
  intro q hq0
  have hwl := smW_len st c
  have hsw : ∀ w ∈ smW st c, w = "drop" ∨ w = "files" ∨ w = "paper" := fun w hx => hw w (List.mem_filter.mp hx).1
  have hqm : (um M1 q (.lst ((smW st c).map U.str))) q = some (.lst ((smW st c).map U.str)) := um_same
  have s1 : Sub M1 (um M1 q (.lst ((smW st c).map U.str))) := sub_um (Sub.refl _) hq0
  generalize um M1 q (.lst ((smW st c).map U.str)) = M2 at *
  have eE : eff st (c, cut) = if (doneN (smW st c).length cut).2 = true then efTear (((smW st c).take (doneN (smW st c).length cut).1).foldl (efPut c) (none, none)) (smW st c)[(doneN (smW st c).length cut).1]? else ((smW st c).take (doneN (smW st c).length cut).1).foldl (efPut c) (none, none) := rfl
  rw [eE] at hq
  clear eE
  generalize eW : smW st c = W at *
  (repeat ((fail_if_success (with_reducible refine Pl.z_ifs ?_)); decreasing_trivial_pre_omega))
  rw [List.length_map]
  refine z_cutR fun R eR => ?_
  have key : R [some (.tup (st.map U.str)), some (.tup [.int c, cutV cut]), some (.ref q), none, some (.int (doneN W.length cut).1), none, none] M2 := by
    rw [eR]
    have hlt := fun z => doneN_lt (m := W.length) (cut := cut) z
    have hle := doneN_le W.length cut
    have hcut : (doneN W.length cut).1 < W.length → ∃ a, cut = some (a, (doneN W.length cut).2) := fun z => by
      rcases cut with _ | ⟨a, b⟩
      · exact absurd z (Nat.lt_irrefl _)
      · refine ⟨a, ?_⟩
        rw [doneN_some] at z ⊢
        by_cases h : W.length ≤ a
        · rw [if_pos h] at z; exact absurd z (Nat.lt_irrefl _)
        · rw [if_neg h]
    generalize doneN W.length cut = D at *
    obtain ⟨m, b⟩ := D
    dsimp only at hlt hle hcut hq ⊢
    (repeat decreasing_trivial_pre_omega)
    intro a ha
    rw [cutU_take, ← List.map_take]
    have hq2 := um_old (o := .lst ((W.take m).map U.str)) hqm ha
    have ha2 : (um M2 a (.lst ((W.take m).map U.str))) a = some (.lst ((W.take m).map U.str)) := um_same
    have s2 : Sub M1 (um M2 a (.lst ((W.take m).map U.str))) := sub_new s1 ha
    generalize um M2 a (.lst ((W.take m).map U.str)) = M3 at *
    (repeat decreasing_trivial_pre_omega)
    refine forL_by (enc := U.str) (fun don rest σ M' => M' = M3 ∧ ∃ u3, σ = [some (.tup (st.map U.str)), some (.tup [.int c, cutV cut]), some (.ref q), u3, some (.int m), some (optI (don.foldl (efPut c) (none, none)).1), some (optI (don.foldl (efPut c) (none, none)).2)]) (W.take m) ⟨rfl, none, rfl⟩ ?_ ?_
    · intro don w rest σ M4 k e ⟨e1, u10, e2⟩ hk
      subst e1 e2
      have hf : (don ++ [w]).foldl (efPut c) (none, none) = efPut c (don.foldl (efPut c) (none, none)) w := by rw [List.foldl_append]; rfl
      have hww : w = "drop" ∨ w = "files" ∨ w = "paper" := hsw w (List.mem_of_mem_take (by rw [← e]; simp))
      generalize don.foldl (efPut c) (none, none) = t at *
      rw [hf] at hk
      unfold efPut at hk
      (repeat decreasing_trivial_pre_omega)
      rcases hww with rfl | rfl | rfl
      · rw [if_neg (by decide +kernel), if_neg (by decide +kernel)] at hk
        refine i_iff (by decide +kernel) ?_
        (repeat decreasing_trivial_pre_omega)
        exact hk _ _ ha2 ⟨rfl, _, rfl⟩
      · rw [if_pos rfl] at hk
        refine i_ift (by decide +kernel) ?_
        (repeat decreasing_trivial_pre_omega)
        exact hk _ _ ha2 ⟨rfl, _, rfl⟩
      · rw [if_neg (by decide +kernel), if_pos rfl] at hk
        refine i_iff (by decide +kernel) ?_
        (repeat decreasing_trivial_pre_omega)
        exact hk _ _ ha2 ⟨rfl, _, rfl⟩
    · intro σ M4 ⟨e1, u10, e2⟩
      subst e1 e2
      generalize (W.take m).foldl (efPut c) (none, none) = t at *
      (repeat decreasing_trivial_pre_omega)
      rw [List.length_map]
      by_cases hlt2 : m < W.length
      · obtain ⟨a', rfl⟩ := hcut hlt2
        simp only [cutV]
        refine i_ift (decide_eq_true (by omega)) ?_
        (repeat decreasing_trivial_pre_omega)
        cases b with
        | false =>
          (repeat decreasing_trivial_pre_omega)
          exact hq _ s2
        | true =>
          obtain ⟨w, hwg⟩ : ∃ w, W[m]? = some w := ⟨_, List.getElem?_eq_getElem hlt2⟩
          rw [if_pos rfl, hwg] at hq
          (repeat decreasing_trivial_pre_omega)
          refine x_lst (v := .str w) hq2 (by rw [atI_nat (by rw [List.length_map]; exact hlt2), List.getElem_map, (List.getElem?_eq_some_iff.mp hwg).2]) ?_
          (repeat decreasing_trivial_pre_omega)
          unfold efTear at hq
          by_cases h1 : w = "files"
          · refine i_ift (decide_eq_true h1) ?_
            rw [if_pos (by rw [h1])] at hq
            (repeat decreasing_trivial_pre_omega)
            exact hq _ s2
          · refine i_iff (decide_eq_false h1) ?_
            rw [if_neg (fun z => h1 (Option.some.inj z))] at hq
            (repeat decreasing_trivial_pre_omega)
            exact hq _ s2
      · have hb : b = false := by
          cases b with
          | false => rfl
          | true => exact absurd (hlt rfl) hlt2
        subst hb
        refine i_iff (decide_eq_false (by omega)) ?_
        (repeat decreasing_trivial_pre_omega)
        exact hq _ s2
  rcases cut with _ | ⟨a, b⟩
  · simp only [cutV] at key ⊢
    (repeat decreasing_trivial_pre_omega)
    exact key
  · simp only [cutV] at key ⊢
    (repeat decreasing_trivial_pre_omega)
    rw [doneN_some] at key
    by_cases h : W.length ≤ a
    · rw [if_pos h] at key
      by_cases h2 : ((W.length : Nat) : Int) < (a : Int)
      · rw [if_pos h2]
        exact key
      · rw [if_neg h2]
        have : a = W.length := by omega
        rw [this]
        rw [this] at key
        exact key
    · rw [if_neg h] at key
      rw [if_neg (by omega)]
      exact key
def LSmallsC (C : CE) (f : Nat) : Prop := ∀ (M : Hm) (n : Nat) (st : List Str) (Q : QU), n ≤ 4 → st ∈ ordersL → (∀ q M', M q = none → Sub M M' → M' q = some (.lst ((smAll n st).map encSm)) → Q (.ref q) M') → C f [.int n, stT st] M Q
def EffC (C : CE) (f : Nat) : Prop := ∀ (st : List Str) (sm : Sm), st.length ≤ 3 → StW st → Ret C f [stT st, encSm sm] (encEf (eff st sm))
theorem law_effects_ok {fs fe : Nat} (hS : LSmallsC C fs) (hE : EffC C fe) {n : Nat} {st : List Str} (hn : n ≤ 4) (ho : st ∈ ordersL)
    (hq : ∀ q E M', M q = none → Sub M M' → M' q = some (.lst (E.map encEf)) → EfOf n st E → E.length ≤ 35 → rt (.ref q) M') : wS C (B_law_effects fs fe) ⟨nx, rt, bk, ct⟩ (startU 5 [.int n, stT st]) M := by
  have hlim : LIM = 100000 := rfl
  have hst := ord_len ho
  unfold B_law_effects
  (repeat decreasing_trivial_pre_omega)
  intro q hq0
  (repeat decreasing_trivial_pre_omega)
  refine hS _ n st _ hn ho fun r M1 r0 s1 hr => ?_
  have hqr : q ≠ r := um_noneN r0 |>.symm
  have q1 := s1 _ _ (um_same (M := M) (a := q) (o := .lst []))
  have s2 : Sub M M1 := (sub_um (Sub.refl _) hq0).trans s1
  have hal : (smAll n st).length ≤ 7 * (conts n).length := smAll_len hst _
  have hcl : (conts n).length = n + 1 := by unfold conts; simp
  (repeat decreasing_trivial_pre_omega)
  refine forL_by (enc := encSm) (fun don rest σ M' => ∃ E u3 u4, σ = [some (.int n), some (stT st), some (.ref q), u3, u4] ∧ M' q = some (.lst (E.map encEf)) ∧ M' r = some (.lst ((smAll n st).map encSm)) ∧ Sub M M' ∧ (∀ e ∈ E, ∃ sm ∈ smAll n st, e = eff st sm) ∧ (∀ sm ∈ don, eff st sm ∈ E) ∧ E.length ≤ don.length) (smAll n st) ⟨[], none, none, rfl, q1, hr, s2, (fun _ z => nomatch z), (fun _ z => nomatch z), Nat.zero_le _⟩ ?_ ?_
  · intro don sm rest σ M2 k e ⟨E, u3, u4, e1, b1, b2, b3, b4, b5, b6⟩ hk
    subst e1
    have hsm : sm ∈ smAll n st := by rw [← e]; simp
    have hdl : don.length + rest.length + 1 = (smAll n st).length := by rw [← e]; simp; omega
    (repeat decreasing_trivial_pre_omega)
    refine hE st sm hst (ordersW ho) M2 _ fun M3 s3 => ?_
    have c1 := s3 _ _ b1
    have c2 := s3 _ _ b2
    have okE : ∀ e : Ef, okU (encEf e) = true := fun e => by obtain ⟨a, b⟩ := e; cases a <;> cases b <;> rfl
    have okL' : ∀ E : List Ef, okL (E.map encEf) = true := fun E => by
      refine List.all_eq_true.mpr fun x hx => ?_
      rw [List.mem_map] at hx
      obtain ⟨⟨a, b⟩, _, rfl⟩ := hx
      cases a <;> cases b <;> rfl
    (repeat decreasing_trivial_pre_omega)
    refine nin_lst c1 (okE _) (okL' _) ?_
    have em : encEf (eff st sm) ∈ E.map encEf ↔ eff st sm ∈ E := by
      rw [List.mem_map]
      exact ⟨fun ⟨x, hx, ex⟩ => by rw [← encEf_inj _ _ ex]; exact hx, fun h => ⟨_, h, rfl⟩⟩
    by_cases hx : eff st sm ∈ E
    · rw [if_neg (by simpa using em.mpr hx)]
      (repeat decreasing_trivial_pre_omega)
      refine hk _ _ c2 ⟨E, _, _, rfl, c1, c2, b3.trans s3, b4, fun x hxm => ?_, by simp; omega⟩
      rcases List.mem_append.mp hxm with z | z
      · exact b5 x z
      · rw [List.mem_singleton.mp z]; exact hx
    · rw [if_pos (by simpa using fun z => hx (em.mp z))]
      (repeat decreasing_trivial_pre_omega)
      refine m_app c1 (by rw [List.length_map]; omega) ?_
      (repeat decreasing_trivial_pre_omega)
      refine hk _ _ (um_oth hqr.symm c2) ⟨E ++ [eff st sm], _, _, rfl, by rw [um_same]; simp, um_oth hqr.symm c2, sub_um (b3.trans s3) hq0, fun x hxm => ?_, fun x hxm => ?_, by simp; omega⟩
      · rcases List.mem_append.mp hxm with z | z
        · exact b4 x z
        · exact ⟨sm, hsm, List.mem_singleton.mp z⟩
      · rcases List.mem_append.mp hxm with z | z
        · exact List.mem_append_left _ (b5 x z)
        · rw [List.mem_singleton.mp z]; simp
  · intro σ M2 ⟨E, u3, u4, e1, b1, b2, b3, b4, b5, b6⟩
    subst e1
    (repeat decreasing_trivial_pre_omega)
    exact hq q E M2 hq0 b3 b1 ⟨b4, b5⟩ (by omega)
def EffsC (C : CE) (f : Nat) : Prop := ∀ (M : Hm) (n : Nat) (st : List Str) (Q : QU), n ≤ 4 → st ∈ ordersL → (∀ q E M', M q = none → Sub M M' → M' q = some (.lst (E.map encEf)) → EfOf n st E → E.length ≤ 35 → Q (.ref q) M') → C f [.int n, stT st] M Q
theorem law_is_safe_ok {fr fe fw : Nat} (hR : ReachC C fr) (hE : EffsC C fe) (hW : LWrongC C fw) {n : Nat} {st : List Str} {cls : List Int} (hn : n ≤ 4) (ho : st ∈ ordersL) (hc : ClOk n cls)
    (hq : ∀ b M', Sub M M' → (b = true ↔ ∀ s, RchS n st s → wrongS cls s = false) → rt (.bl b) M') : wS C (B_law_is_safe fr fe fw) ⟨nx, rt, bk, ct⟩ (startU 3 [.int n, kpT st cls]) M := by
  unfold B_law_is_safe kpT
  (repeat decreasing_trivial_pre_omega)
  intro q hq0
  have q1 : (um M q (.lst [.tup [.int (-3), .int (-3)]])) q = some (.lst ([S0].map encS2)) := um_same
  have s1 : Sub M (um M q (.lst [.tup [.int (-3), .int (-3)]])) := sub_um (Sub.refl _) hq0
  generalize um M q (.lst [.tup [.int (-3), .int (-3)]]) = M1 at *
  (repeat decreasing_trivial_pre_omega)
  refine hE _ n st _ hn ho fun r E M2 r0 s2 hr he _ => ?_
  (repeat decreasing_trivial_pre_omega)
  refine hR M2 E [S0] (gridL n) q r _ (s2 _ _ q1) hr (by simp) (fun s hs => grid_mem (rch_grid ((rchE_iff he s).mp hs))) (grid_le hn) fun t D M3 t0 s3 ht nd hD _ => ?_
  have s4 := (s1.trans s2).trans s3
  (repeat decreasing_trivial_pre_omega)
  refine forL_by (enc := encS2) (fun don rest σ M' => ∃ u2, σ = [some (.int n), some (.tup [.tup (st.map U.str), .tup (cls.map U.int)]), u2] ∧ M' t = some (.lst (D.map encS2)) ∧ Sub M M' ∧ ∀ s ∈ don, wrongS cls s = false) D ⟨none, rfl, ht, s4, fun _ z => nomatch z⟩ ?_ ?_
  · intro don s rest σ M4 k e ⟨u2, e1, b1, b2, b3⟩ hk
    subst e1
    have hs : RchS n st s := (rchE_iff he s).mp ((hD s).mp (by rw [← e]; simp))
    (repeat decreasing_trivial_pre_omega)
    refine hW M4 n cls s _ hc (rch_grid hs) ?_
    cases hw : wrongS cls s with
    | true =>
      (repeat decreasing_trivial_pre_omega)
      exact hq false _ b2 ⟨fun z => (nomatch z), fun z => by rw [z s hs] at hw; cases hw⟩
    | false =>
      (repeat decreasing_trivial_pre_omega)
      refine hk _ _ b1 ⟨_, rfl, b1, b2, fun x hx => ?_⟩
      rcases List.mem_append.mp hx with z | z
      · exact b3 x z
      · rw [List.mem_singleton.mp z]; exact hw
  · intro σ M4 ⟨u2, e1, b1, b2, b3⟩
    subst e1
    (repeat decreasing_trivial_pre_omega)
    exact hq true _ b2 ⟨fun _ s hs => b3 s ((hD s).mpr ((rchE_iff he s).mpr hs)), fun _ => rfl⟩
def SafeC (C : CE) (f : Nat) : Prop := ∀ (M : Hm) (n : Nat) (st : List Str) (cls : List Int) (Q : QU), n ≤ 4 → st ∈ ordersL → ClOk n cls → (∀ b M', Sub M M' → (b = true ↔ ∀ s, RchS n st s → wrongS cls s = false) → Q (.bl b) M') → C f [.int n, kpT st cls] M Q
end
end Pl.Tq

set_option maxHeartbeats 1000000
/-! k80: the law's distances and rows -/
namespace Pl.Tq
open PySem L2 K79
def B_law_left (law_after : Nat) (law_wrong : Nat) (law_reached : Nat) (law_effects : Nat) : S := (.seq (.asg 2 (.call law_effects (.cons (.var 0) (.cons (.ix (.var 1) (.int 0)) .nil)))) (.seq (.asg 3 (.call law_reached (.cons (.lst (.cons (.tup (.cons (.neg (.int 3)) (.cons (.neg (.int 3)) .nil))) .nil)) (.cons (.var 2) .nil)))) (.seq (.asg 4 .dnewN) (.seq (.for_ (.one 5) (.iSeq (.var 3)) (.seq (.ifs (.call law_wrong (.cons (.ix (.var 1) (.int 1)) (.cons (.var 5) .nil))) (.seq (.setIx (.var 4) (.var 5) (.int 0)) .skip) .skip) .skip)) (.seq (.for_ (.one 6) (.iRange2 (.int 1) (.int 50)) (.seq (.asg 7 (.lst .nil)) (.seq (.for_ (.one 5) (.iSeq (.var 3)) (.seq (.ifs (.ands (.cons (.cmp .notin (.var 5) (.var 4)) (.cons (.cmp .isin (.bin .sub (.var 6) (.int 1)) (.comp [("effect", 8)] (.one 8) (.iSeq (.var 2)) .nil (.dgetN (.var 4) (.call law_after (.cons (.var 5) (.cons (.var 8) .nil))) (.int 99)))) .nil))) (.seq (.expr (.mth .append (.var 7) (.cons (.var 5) .nil))) .skip) .skip) .skip)) (.seq (.ifs (.not (.var 7)) (.seq .brk .skip) .skip) (.seq (.for_ (.one 5) (.iSeq (.var 7)) (.seq (.setIx (.var 4) (.var 5) (.var 6)) .skip)) .skip))))) (.seq (.ret (.var 4)) .skip))))))
abbrev Ld := List (S2 × Nat)
def ldU (m : Nat) : U := .int m
def leftM (L : Ld) : MO := .dcn (amap encS2 ldU L)
/-- what is known of the distances up to m -/
structure LI (n : Nat) (st : List Str) (cls : List Int) (m : Nat) (L : Ld) : Prop where
  nd : (L.map (·.1)).Nodup
  at_ : ∀ s k, aget L s = some k ↔ RchS n st s ∧ dst n st cls s = some k ∧ k ≤ m
structure LAll (n : Nat) (st : List Str) (cls : List Int) (L : Ld) : Prop where
  nd : (L.map (·.1)).Nodup
  at_ : ∀ s k, aget L s = some k ↔ RchS n st s ∧ dst n st cls s = some k
theorem LI.len {n : Nat} {st : List Str} {cls : List Int} {m : Nat} {L : Ld} (hn : n ≤ 4) (l : LI n st cls m L) : L.length ≤ 49 := by
  have := rch_len hn l.nd fun s hs => by
    obtain ⟨p, hp, rfl⟩ := List.mem_map.mp hs
    exact ((l.at_ p.1 p.2).mp (aget_of_mem l.nd hp)).1
  rwa [List.length_map] at this
theorem LI.all {n : Nat} {st : List Str} {cls : List Int} {m : Nat} {L : Ld} (l : LI n st cls m L) (h : ∀ s k, RchS n st s → dst n st cls s = some k → k ≤ m) : LAll n st cls L := ⟨l.nd, fun s k => by
  rw [l.at_]
  exact ⟨fun ⟨a, b, _⟩ => ⟨a, b⟩, fun ⟨a, b⟩ => ⟨a, b, h s k a b⟩⟩⟩
/-- where none stands at m + 1, none stands farther -/
theorem none_far {n : Nat} {st : List Str} {cls : List Int} {m : Nat} (h : ∀ s, RchS n st s → dst n st cls s ≠ some (m + 1)) : ∀ k s, RchS n st s → dst n st cls s = some k → k ≤ m := by
  intro k
  induction k with
  | zero => intro _ _ _; exact Nat.zero_le _
  | succ k ih =>
    intro s hs hd
    refine Classical.byContradiction fun z => ?_
    rcases Nat.lt_or_ge m k with z2 | z2
    · obtain ⟨a, ha, h2⟩ := (dst_succ (m := k) (s := s) (fun j hj => by rw [hd] at hj; cases hj; exact Nat.lt_succ_self _)).mpr hd
      have := ih _ (.step hs ha) h2
      omega
    · have : k = m := by omega
      subst this
      exact h s hs hd
section
variable {C : CE} {nx bk ct : SU → Hm → Prop} {rt : QU} {M : Hm}
theorem ld_get {L : Ld} {x : S2} {d : Nat} : (dfind (amap encS2 ldU L) (encS2 x)).getD (.int (d : Nat)) = .int (((aget L x).getD d : Nat) : Int) := by
  rw [dfind_amap encS2_inj]
  cases aget L x <;> rfl
theorem law_left_ok {fa fw fr fe : Nat} (hA : AfterC C fa) (hW : LWrongC C fw) (hR : ReachC C fr) (hE : EffsC C fe) {n : Nat} {st : List Str} {cls : List Int} (hn : n ≤ 4) (ho : st ∈ ordersL) (hc : ClOk n cls)
    (hq : ∀ p L M', M p = none → Sub M M' → M' p = some (leftM L) → LAll n st cls L → rt (.ref p) M') : wS C (B_law_left fa fw fr fe) ⟨nx, rt, bk, ct⟩ (startU 9 [.int n, kpT st cls]) M := by
  have hlim : LIM = 100000 := rfl
  unfold B_law_left kpT
  (repeat decreasing_trivial_pre_omega)
  refine hE _ n st _ hn ho fun e E M1 e0 s1 he hE2 hE35 => ?_
  (repeat decreasing_trivial_pre_omega)
  intro q hq0
  have q1 : (um M1 q (.lst [.tup [.int (-3), .int (-3)]])) q = some (.lst ([S0].map encS2)) := um_same
  have e1 := um_old (o := .lst [.tup [.int (-3), .int (-3)]]) he hq0
  have s2 : Sub M (um M1 q (.lst [.tup [.int (-3), .int (-3)]])) := sub_new s1 hq0
  generalize um M1 q (.lst [.tup [.int (-3), .int (-3)]]) = M2 at *
  (repeat decreasing_trivial_pre_omega)
  refine hR M2 E [S0] (gridL n) q e _ q1 e1 (by simp) (fun s hs => grid_mem (rch_grid ((rchE_iff hE2 s).mp hs))) (grid_le hn) fun r R M3 r0 s3 hr nd hRm _ => ?_
  have hRc : ∀ s, s ∈ R ↔ RchS n st s := fun s => (hRm s).trans (rchE_iff hE2 s)
  have e3 := s3 _ _ e1
  have s4 := s2.trans s3
  (repeat decreasing_trivial_pre_omega)
  intro p hp0
  have hpM : M p = none := by
    cases z : M p with
    | none => rfl
    | some o => rw [s4 _ _ z] at hp0; cases hp0
  have hrp : r ≠ p := ne_of_old hr hp0
  have hep : e ≠ p := ne_of_old e3 hp0
  have p4 : (um M3 p (.dcn [])) p = some (leftM []) := um_same
  have r4 := um_old (o := .dcn []) hr hp0
  have e4 := um_old (o := .dcn []) e3 hp0
  have s5 := sub_new (o := .dcn []) s4 hp0
  generalize um M3 p (.dcn []) = M4 at *
  (repeat decreasing_trivial_pre_omega)
  refine forL_by (enc := encS2) (fun don rest σ M' => ∃ u5 L, σ = [some (.int n), some (.tup [.tup (st.map U.str), .tup (cls.map U.int)]), some (.ref e), some (.ref r), some (.ref p), u5, none, none, none] ∧ M' p = some (leftM L) ∧ M' r = some (.lst (R.map encS2)) ∧ M' e = some (.lst (E.map encEf)) ∧ Sub M M' ∧ (L.map (·.1)).Nodup ∧ ∀ s k, aget L s = some k ↔ s ∈ don ∧ wrongS cls s = true ∧ k = 0) R ⟨none, [], rfl, p4, r4, e4, s5, List.nodup_nil, fun s k => ⟨fun z => (nomatch z), fun z => nomatch z.1⟩⟩ ?_ ?_
  · intro don s rest σ M5 k eD ⟨u5, L, e1, b1, b2, b3, b4, b5, b6⟩ hk
    subst e1
    have hs : RchS n st s := (hRc s).mp (by rw [← eD]; simp)
    (repeat decreasing_trivial_pre_omega)
    refine hW M5 n cls s _ hc (rch_grid hs) ?_
    cases hw : wrongS cls s with
    | false =>
      (repeat decreasing_trivial_pre_omega)
      refine hk _ _ b2 ⟨_, L, rfl, b1, b2, b3, b4, b5, fun x k' => ?_⟩
      rw [b6]
      refine ⟨fun ⟨a, b, c⟩ => ⟨List.mem_append_left _ a, b, c⟩, fun ⟨a, b, c⟩ => ⟨?_, b, c⟩⟩
      rcases List.mem_append.mp a with z | z
      · exact z
      · rw [List.mem_singleton.mp z, hw] at b; cases b
    | true =>
      unfold leftM at b1
      have hL : L.length ≤ 49 := by
        have := rch_len hn b5 fun x hx => by
          obtain ⟨y, hy, rfl⟩ := List.mem_map.mp hx
          exact (hRc _).mp (by rw [← eD]; exact List.mem_append_left _ ((b6 y.1 y.2).mp (aget_of_mem b5 hy)).1)
        rwa [List.length_map] at this
      (repeat decreasing_trivial_pre_omega)
      refine st_dcn b1 rfl (by rw [amap_len]; omega) ?_
      rw [show (U.int 0) = ldU 0 from rfl, dput_amap encS2_inj]
      (repeat decreasing_trivial_pre_omega)
      refine hk _ _ (um_oth hrp b2) ⟨_, aput L s 0, rfl, um_same, um_oth hrp b2, um_oth hep b3, sub_um b4 hpM, aput_nodup b5, fun x k' => ?_⟩
      rw [aget_aput]
      by_cases hx : x = s
      · subst hx
        rw [if_pos rfl]
        exact ⟨fun z => ⟨by simp, hw, (Option.some.inj z).symm⟩, fun ⟨_, _, z⟩ => by rw [z]⟩
      · rw [if_neg hx, b6]
        refine ⟨fun ⟨a, b, c⟩ => ⟨List.mem_append_left _ a, b, c⟩, fun ⟨a, b, c⟩ => ⟨?_, b, c⟩⟩
        rcases List.mem_append.mp a with z | z
        · exact z
        · exact absurd (List.mem_singleton.mp z) hx
  intro σ M5 ⟨u5, L, e1, b1, b2, b3, b4, b5, b6⟩
  subst e1
  have l0 : LI n st cls 0 L := ⟨b5, fun s k => by
    rw [b6, hRc]
    exact ⟨fun ⟨a, b, c⟩ => ⟨a, by rw [c]; exact dst0.mpr b, by omega⟩, fun ⟨a, b, c⟩ => by
      have : k = 0 := by omega
      subst this
      exact ⟨a, dst0.mp b, rfl⟩⟩⟩
  clear b5 b6
  (repeat decreasing_trivial_pre_omega)
  refine ⟨by omega, by omega, by omega, by omega, ?_⟩
  rw [show rngU 1 50 = (List.range 49).map (fun i : Nat => U.int (1 + (i : Nat))) from rfl]
  refine forL_by (enc := fun i : Nat => U.int (1 + (i : Nat))) (fun don rest σ M' => ∃ u5 u6 u7 u8 L, σ = [some (.int n), some (.tup [.tup (st.map U.str), .tup (cls.map U.int)]), some (.ref e), some (.ref r), some (.ref p), u5, u6, u7, u8] ∧ M' p = some (leftM L) ∧ M' r = some (.lst (R.map encS2)) ∧ M' e = some (.lst (E.map encEf)) ∧ Sub M M' ∧ LI n st cls don.length L) (List.range 49) ⟨_, _, _, _, L, rfl, b1, b2, b3, b4, l0⟩ ?_ ?_
  · intro don i rest σ M6 k eI ⟨v5, v6, v7, v8, L, e1, c1, c2, c3, c4, li⟩ hk
    subst e1
    have hi : i = don.length := by
      have h1 : (don ++ i :: rest)[don.length]? = some i := by simp
      rw [eI] at h1
      obtain ⟨h2, h3⟩ := List.getElem?_eq_some_iff.mp h1
      simpa using h3.symm
    subst hi
    have hdl : don.length < 49 := by
      have := congrArg List.length eI
      simp at this
      omega
    have hLl := li.len hn
    rw [show (don ++ [don.length]).length = don.length + 1 by simp] at hk
    generalize don.length = m at *
    unfold leftM at c1
    (repeat decreasing_trivial_pre_omega)
    intro f hf0
    have hrf : r ≠ f := ne_of_old c2 hf0
    have hef : e ≠ f := ne_of_old c3 hf0
    have hpf : p ≠ f := ne_of_old c1 hf0
    have hfM : M f = none := by
      cases z : M f with
      | none => rfl
      | some o => rw [c4 _ _ z] at hf0; cases hf0
    have g1 := um_old (o := .lst []) c1 hf0
    have g2 := um_old (o := .lst []) c2 hf0
    have g3 := um_old (o := .lst []) c3 hf0
    have g4 : (um M6 f (.lst [])) f = some (.lst ((List.filter (fun s => decide (dst n st cls s = some (m + 1))) []).map encS2)) := um_same
    have g5 := sub_new (o := .lst []) c4 hf0
    generalize um M6 f (.lst []) = M7 at *
    (repeat decreasing_trivial_pre_omega)
    refine forL_by (enc := encS2) (fun dn rs σ M' => ∃ u5 u8, σ = [some (.int n), some (.tup [.tup (st.map U.str), .tup (cls.map U.int)]), some (.ref e), some (.ref r), some (.ref p), u5, some (.int (1 + (m : Nat))), some (.ref f), u8] ∧ M' p = some (.dcn (amap encS2 ldU L)) ∧ M' r = some (.lst (R.map encS2)) ∧ M' e = some (.lst (E.map encEf)) ∧ M' f = some (.lst ((dn.filter fun s => decide (dst n st cls s = some (m + 1))).map encS2)) ∧ Sub M M') R ⟨_, _, rfl, g1, g2, g3, g4, g5⟩ ?_ ?_
    · intro dn s rs σ M8 k2 eD ⟨w5, w8, e1, d1, d2, d3, d4, d5⟩ hk2
      subst e1
      have hs : RchS n st s := (hRc s).mp (by rw [← eD]; simp)
      have hfl : (dn.filter fun s => decide (dst n st cls s = some (m + 1))).length ≤ 49 := by
        have h1 := List.length_filter_le (fun s => decide (dst n st cls s = some (m + 1))) dn
        have h2 := rch_len hn nd fun s hs => (hRc s).mp hs
        have h3 : dn.length ≤ R.length := by rw [← eD]; simp
        omega
      have yes : dst n st cls s = some (m + 1) → (dn ++ [s]).filter (fun s => decide (dst n st cls s = some (m + 1))) = dn.filter (fun s => decide (dst n st cls s = some (m + 1))) ++ [s] := fun h => by rw [List.filter_append]; simp [h]
      have no : dst n st cls s ≠ some (m + 1) → (dn ++ [s]).filter (fun s => decide (dst n st cls s = some (m + 1))) = dn.filter (fun s => decide (dst n st cls s = some (m + 1))) := fun h => by rw [List.filter_append]; simp [h]
      have known : (dfind (amap encS2 ldU L) (encS2 s)).isSome = true ↔ ∃ j, dst n st cls s = some j ∧ j ≤ m := by
        rw [dfind_amap encS2_inj, Option.isSome_map, Option.isSome_iff_exists]
        exact ⟨fun ⟨j, h⟩ => ⟨j, ((li.at_ s j).mp h).2⟩, fun ⟨j, h⟩ => ⟨j, (li.at_ s j).mpr ⟨hs, h⟩⟩⟩
      (repeat decreasing_trivial_pre_omega)
      refine nin_dcn d1 rfl ?_
      by_cases hkn : (dfind (amap encS2 ldU L) (encS2 s)).isSome = true
      · rw [hkn]
        (repeat decreasing_trivial_pre_omega)
        refine hk2 _ _ d2 ⟨_, _, rfl, d1, d2, d3, ?_, d5⟩
        rw [no]
        · exact d4
        · obtain ⟨j, h1, h2⟩ := known.mp hkn
          rw [h1]
          intro z
          have := Option.some.inj z
          omega
      · have hkn' : (dfind (amap encS2 ldU L) (encS2 s)).isSome = false := by simpa using hkn
        have far : ∀ j, dst n st cls s = some j → m < j := fun j hj => Classical.byContradiction fun z => hkn (known.mpr ⟨j, hj, by omega⟩)
        rw [hkn']
        (repeat decreasing_trivial_pre_omega)
        refine compL_by (enc := encEf) (fun de re acc M' => M' = M8 ∧ acc = de.map fun x => U.int (((aget L (aft s x)).getD 99 : Nat) : Int)) E ⟨rfl, rfl⟩ ?_ ?_
        · intro de x re acc M9 k3 eE ⟨e1, e2⟩ hk3
          subst e1 e2
          have hEl : de.length < 100000 := by
            have : de.length ≤ E.length := by rw [← eE]; simp
            omega
          (repeat decreasing_trivial_pre_omega)
          refine hA _ s x _ ?_
          (repeat decreasing_trivial_pre_omega)
          refine d_getN d1 rfl ?_
          rw [show (U.int 99) = U.int ((99 : Nat) : Int) from rfl, ld_get]
          refine hk3 _ _ d3 (fun _ => by rw [List.length_map]; omega) ⟨rfl, ?_⟩
          simp
        · intro acc M9 ⟨e1, e2⟩
          subst e1 e2
          intro a ha
          have hpa : p ≠ a := ne_of_old d1 ha
          have haf : f ≠ a := ne_of_old d4 ha
          have h1 := um_old (o := .lst (E.map fun x => U.int (((aget L (aft s x)).getD 99 : Nat) : Int))) d1 ha
          have h2 := um_old (o := .lst (E.map fun x => U.int (((aget L (aft s x)).getD 99 : Nat) : Int))) d2 ha
          have h3 := um_old (o := .lst (E.map fun x => U.int (((aget L (aft s x)).getD 99 : Nat) : Int))) d3 ha
          have h4 := um_old (o := .lst (E.map fun x => U.int (((aget L (aft s x)).getD 99 : Nat) : Int))) d4 ha
          have h5 := sub_new (o := .lst (E.map fun x => U.int (((aget L (aft s x)).getD 99 : Nat) : Int))) d5 ha
          have h6 : (um M9 a (.lst (E.map fun x => U.int (((aget L (aft s x)).getD 99 : Nat) : Int)))) a = some (.lst (E.map fun x => U.int (((aget L (aft s x)).getD 99 : Nat) : Int))) := um_same
          generalize um M9 a (.lst (E.map fun x => U.int (((aget L (aft s x)).getD 99 : Nat) : Int))) = M10 at *
          have okl : okL (E.map fun x => U.int (((aget L (aft s x)).getD 99 : Nat) : Int)) = true := List.all_eq_true.mpr fun x hx => by
            obtain ⟨y, _, rfl⟩ := List.mem_map.mp hx
            rfl
          (repeat decreasing_trivial_pre_omega)
          refine in_lst h6 rfl okl ?_
          have hmem : (U.int (1 + (m : Nat) - 1) ∈ E.map fun x => U.int (((aget L (aft s x)).getD 99 : Nat) : Int)) ↔ dst n st cls s = some (m + 1) := by
            rw [← dst_succ far, List.mem_map]
            constructor
            · rintro ⟨x, hx, ex⟩
              injection ex with ex
              obtain ⟨sm, hsm, rfl⟩ := hE2.1 x hx
              refine ⟨sm, hsm, ?_⟩
              rw [step_eff]
              cases hg : aget L (aft s (eff st sm)) with
              | none => rw [hg] at ex; simp at ex; omega
              | some j =>
                rw [hg] at ex
                have : j = m := by simp at ex; omega
                rw [← this]
                exact ((li.at_ _ _).mp hg).2.1
            · rintro ⟨sm, hsm, ha⟩
              refine ⟨eff st sm, hE2.2 sm hsm, ?_⟩
              rw [step_eff] at ha
              have hr : RchS n st (aft s (eff st sm)) := by rw [← step_eff]; exact .step hs hsm
              rw [(li.at_ _ _).mpr ⟨hr, ha, Nat.le_refl _⟩]
              simp
              omega
          by_cases hd : dst n st cls s = some (m + 1)
          · rw [decide_eq_true (hmem.mpr hd)]
            (repeat decreasing_trivial_pre_omega)
            refine m_app h4 (by rw [List.length_map]; omega) ?_
            (repeat decreasing_trivial_pre_omega)
            refine hk2 _ _ (um_oth hrf h2) ⟨_, _, rfl, um_oth hpf h1, um_oth hrf h2, um_oth hef h3, ?_, sub_um h5 hfM⟩
            rw [um_same, yes hd, List.map_append]
            rfl
          · rw [decide_eq_false (fun z => hd (hmem.mp z))]
            (repeat decreasing_trivial_pre_omega)
            refine hk2 _ _ h2 ⟨_, _, rfl, h1, h2, h3, ?_, h5⟩
            rw [no hd]
            exact h4
    · intro σ M8 ⟨w5, w8, e1, d1, d2, d3, d4, d5⟩
      subst e1
      have hFm : ∀ s, s ∈ R.filter (fun s => decide (dst n st cls s = some (m + 1))) ↔ RchS n st s ∧ dst n st cls s = some (m + 1) := fun s => by
        rw [List.mem_filter, hRc, decide_eq_true_eq]
      have hFnd : (R.filter (fun s => decide (dst n st cls s = some (m + 1)))).Nodup := nd.filter _
      generalize R.filter (fun s => decide (dst n st cls s = some (m + 1))) = F at *
      (repeat decreasing_trivial_pre_omega)
      by_cases hF : F = []
      · subst hF
        (repeat decreasing_trivial_pre_omega)
        refine hq p L M8 hpM d5 d1 (li.all fun s k hs hd => none_far (m := m) (fun s hs z => ?_) k s hs hd)
        exact absurd ((hFm s).mpr ⟨hs, z⟩) (by simp)
      · have hF' : ¬ F.map encS2 = [] := by simpa using hF
        (repeat decreasing_trivial_pre_omega)
        refine forL_by (enc := encS2) (fun dn rs σ M' => ∃ u5 u8 L', σ = [some (.int n), some (.tup [.tup (st.map U.str), .tup (cls.map U.int)]), some (.ref e), some (.ref r), some (.ref p), u5, some (.int (1 + (m : Nat))), some (.ref f), u8] ∧ M' p = some (.dcn (amap encS2 ldU L')) ∧ M' r = some (.lst (R.map encS2)) ∧ M' e = some (.lst (E.map encEf)) ∧ M' f = some (.lst (F.map encS2)) ∧ Sub M M' ∧ (L'.map (·.1)).Nodup ∧ ∀ s k, aget L' s = some k ↔ aget L s = some k ∨ (s ∈ dn ∧ k = m + 1)) F ⟨_, _, L, rfl, d1, d2, d3, d4, d5, li.nd, fun s k => ⟨.inl, fun z => z.elim id fun z => nomatch z.1⟩⟩ ?_ ?_
        · intro dn s rs σ M9 k2 eF ⟨y5, y8, L', e1, x1, x2, x3, x4, x5, x6, x7⟩ hk2
          subst e1
          have hs := (hFm s).mp (by rw [← eF]; simp)
          have hL' : L'.length ≤ 49 := by
            have := rch_len hn x6 fun z hz => by
              obtain ⟨y, hy, rfl⟩ := List.mem_map.mp hz
              rcases (x7 y.1 y.2).mp (aget_of_mem x6 hy) with z | z
              · exact ((li.at_ _ _).mp z).1
              · exact ((hFm y.1).mp (by rw [← eF]; exact List.mem_append_left _ z.1)).1
            rwa [List.length_map] at this
          have hns : aget L s = none := by
            cases z : aget L s with
            | none => rfl
            | some j =>
              have := ((li.at_ s j).mp z).2
              rw [hs.2] at this
              have := Option.some.inj this.1
              omega
          (repeat decreasing_trivial_pre_omega)
          refine st_dcn x1 rfl (by rw [amap_len]; omega) ?_
          have em : U.int (1 + (m : Nat)) = ldU (m + 1) := by unfold ldU; congr 1; omega
          have ed := dput_amap (f := encS2) (g := ldU) encS2_inj L' s (m + 1)
          rw [← em] at ed
          rw [ed]
          (repeat decreasing_trivial_pre_omega)
          refine hk2 _ _ (um_oth hpf.symm x4) ⟨_, _, aput L' s (m + 1), rfl, um_same, um_oth hrp x2, um_oth hep x3, um_oth hpf.symm x4, sub_um x5 hpM, aput_nodup x6, fun x k' => ?_⟩
          rw [aget_aput]
          by_cases hx : x = s
          · subst hx
            rw [if_pos rfl]
            refine ⟨fun z => .inr ⟨by simp, (Option.some.inj z).symm⟩, fun z => ?_⟩
            rcases z with z | z
            · rw [hns] at z; cases z
            · rw [z.2]
          · rw [if_neg hx, x7]
            refine ⟨fun z => z.elim .inl fun ⟨a, b⟩ => .inr ⟨List.mem_append_left _ a, b⟩, fun z => ?_⟩
            rcases z with z | ⟨a, b⟩
            · exact .inl z
            · rcases List.mem_append.mp a with z | z
              · exact .inr ⟨z, b⟩
              · exact absurd (List.mem_singleton.mp z) hx
        · intro σ M9 ⟨y5, y8, L', e1, x1, x2, x3, x4, x5, x6, x7⟩
          subst e1
          refine hk _ _ trivial ⟨_, _, _, _, L', rfl, x1, x2, x3, x5, x6, fun s k' => ?_⟩
          rw [x7, li.at_, hFm]
          constructor
          · rintro (⟨a, b, c⟩ | ⟨⟨a, b⟩, rfl⟩)
            · exact ⟨a, b, by omega⟩
            · exact ⟨a, b, Nat.le_refl _⟩
          · rintro ⟨a, b, c⟩
            rcases Nat.lt_or_ge m k' with z | z
            · have : k' = m + 1 := by omega
              subst this
              exact .inr ⟨⟨a, b⟩, rfl⟩
            · exact .inl ⟨a, b, z⟩
  · intro σ M6 ⟨v5, v6, v7, v8, L, e1, c1, c2, c3, c4, li⟩
    subst e1
    (repeat decreasing_trivial_pre_omega)
    refine hq p L M6 hpM c4 c1 (li.all fun s k hs hd => ?_)
    have := dst_le hd
    simp
    omega
end
end Pl.Tq

set_option maxHeartbeats 1000000
/-! k80: the law's rows, what is due, its judge -/
namespace Pl.Tq
open PySem L2 K79
def B_law_row_from (law_after : Nat) (law_effect : Nat) (law_smalls : Nat) : S := (.seq (.asg 4 (.lst .nil)) (.seq (.asg 5 (.call law_smalls (.cons (.var 0) (.cons (.ix (.var 1) (.int 0)) .nil)))) (.seq (.for_ (.one 6) (.iRange (.int 50)) (.seq (.asg 7 (.ix (.var 2) (.var 3))) (.seq (.ifs (.cmp .eq (.var 7) (.int 0)) (.seq .brk .skip) .skip) (.seq (.for_ (.one 8) (.iSeq (.var 5)) (.seq (.asg 9 (.call law_after (.cons (.var 3) (.cons (.call law_effect (.cons (.ix (.var 1) (.int 0)) (.cons (.var 8) .nil))) .nil)))) (.seq (.ifs (.cmp .eq (.dgetN (.var 2) (.var 9) (.int 99)) (.bin .sub (.var 7) (.int 1))) (.seq (.expr (.mth .append (.var 4) (.cons (.var 8) .nil))) (.seq (.asg 3 (.var 9)) (.seq .brk .skip))) .skip) .skip))) .skip)))) (.seq (.ret (.blt .tuple (.cons (.var 4) .nil))) .skip))))
def B_law_due (law_reached : Nat) (law_effects : Nat) (law_row_from : Nat) : S := (.seq (.ifs (.cmp .isin (.tup (.cons (.neg (.int 3)) (.cons (.neg (.int 3)) .nil))) (.var 2)) (.seq (.ret (.tup (.cons (.str "unsafe") (.cons (.call law_row_from (.cons (.var 0) (.cons (.var 1) (.cons (.var 2) (.cons (.tup (.cons (.neg (.int 3)) (.cons (.neg (.int 3)) .nil))) .nil))))) .nil)))) .skip) .skip) (.seq (.ret (.tup (.cons (.str "safe") (.cons (.blt .tuple (.cons (.blt .sorted (.cons (.call law_reached (.cons (.lst (.cons (.tup (.cons (.neg (.int 3)) (.cons (.neg (.int 3)) .nil))) .nil)) (.cons (.call law_effects (.cons (.var 0) (.cons (.ix (.var 1) (.int 0)) .nil))) .nil))) .nil)) .nil)) .nil)))) .skip))
def LeftC (C : CE) (f : Nat) : Prop := ∀ (M : Hm) (n : Nat) (st : List Str) (cls : List Int) (Q : QU), n ≤ 4 → st ∈ ordersL → ClOk n cls → (∀ p L M', M p = none → Sub M M' → M' p = some (leftM L) → LAll n st cls L → Q (.ref p) M') → C f [.int n, kpT st cls] M Q
theorem LAll.len {n : Nat} {st : List Str} {cls : List Int} {L : Ld} (hn : n ≤ 4) (l : LAll n st cls L) : L.length ≤ 49 := by
  have := rch_len hn l.nd fun s hs => by
    obtain ⟨p, hp, rfl⟩ := List.mem_map.mp hs
    exact ((l.at_ p.1 p.2).mp (aget_of_mem l.nd hp)).1
  rwa [List.length_map] at this
theorem find_uniq {α : Type} {p : α → Bool} {d1 d2 r1 r2 : List α} {x y : α} {l : List α} (e1 : d1 ++ x :: r1 = l) (e2 : d2 ++ y :: r2 = l) (h1 : ∀ z ∈ d1, p z = false) (h2 : ∀ z ∈ d2, p z = false) (hx : p x = true) (hy : p y = true) : x = y := by
  have a := find_split e1 hx h1
  have b := find_split e2 hy h2
  exact Option.some.inj (a.symm.trans b)
section
variable {C : CE} {nx bk ct : SU → Hm → Prop} {rt : QU} {M : Hm}
theorem law_row_from_ok {fa fe fs : Nat} (hA : AfterC C fa) (hE : EffC C fe) (hS : LSmallsC C fs) {n : Nat} {st : List Str} {cls : List Int} {p : Addr} {L : Ld} {s : S2} {m : Nat} (hn : n ≤ 4) (ho : st ∈ ordersL) (hp : M p = some (leftM L)) (hL : LAll n st cls L) (hs : RchS n st s) (hm : dst n st cls s = some m)
    (hq : ∀ M', Sub M M' → rt (encRow (rowD n st cls s)) M') : wS C (B_law_row_from fa fe fs) ⟨nx, rt, bk, ct⟩ (startU 10 [.int n, kpT st cls, .ref p, encS2 s]) M := by
  have hlim : LIM = 100000 := rfl
  have hst := ord_len ho
  have hm2 := dst_le hm
  unfold leftM at hp
  unfold B_law_row_from kpT
  (repeat decreasing_trivial_pre_omega)
  intro q hq0
  have hpq : p ≠ q := ne_of_old hp hq0
  have p1 := um_old (o := .lst []) hp hq0
  have q1 : (um M q (.lst [])) q = some (.lst (([] : List Sm).map encSm)) := um_same
  have s1 : Sub M (um M q (.lst [])) := sub_um (Sub.refl _) hq0
  generalize um M q (.lst []) = M1 at *
  (repeat decreasing_trivial_pre_omega)
  refine hS M1 n st _ hn ho fun r M2 r0 s2 hr => ?_
  have hqr : q ≠ r := ne_of_old q1 r0
  have p2 := s2 _ _ p1
  have q2 := s2 _ _ q1
  have s3 := s1.trans s2
  (repeat decreasing_trivial_pre_omega)
  refine ⟨by omega, by omega, ?_⟩
  refine forL_nat (fun i σ M' => ∃ u6 u7 u8 u9 s' pre m', σ = [some (.int n), some (.tup [.tup (st.map U.str), .tup (cls.map U.int)]), some (.ref p), some (encS2 s'), some (.ref q), some (.ref r), u6, u7, u8, u9] ∧ M' p = some (.dcn (amap encS2 ldU L)) ∧ M' q = some (.lst (pre.map encSm)) ∧ M' r = some (.lst ((smAll n st).map encSm)) ∧ Sub M M' ∧ RchS n st s' ∧ dst n st cls s' = some m' ∧ i + m' = m ∧ pre.length = i ∧ pre ++ rowD n st cls s' = rowD n st cls s) 50 ⟨_, _, _, _, s, [], m, rfl, p2, q2, hr, s3, hs, hm, by omega, rfl, rfl⟩ ?_ ?_
  · intro i σ M3 k hi ⟨u6, u7, u8, u9, s', pre, m', e1, c1, c2, c3, c4, c5, c6, c7, c8, c9⟩ hk
    subst e1
    have hg : dfind (amap encS2 ldU L) (encS2 s') = some (.int (m' : Nat)) := by
      rw [dfind_amap encS2_inj, (hL.at_ s' m').mpr ⟨c5, c6⟩]
      rfl
    (repeat decreasing_trivial_pre_omega)
    refine x_dcn c1 rfl hg ?_
    (repeat decreasing_trivial_pre_omega)
    by_cases hz : m' = 0
    · subst hz
      (repeat decreasing_trivial_pre_omega)
      rw [rowD_nil c6, List.append_nil] at c9
      subst c9
      exact hq _ c4
    · obtain ⟨j, rfl⟩ : ∃ j, m' = j + 1 := ⟨m' - 1, by omega⟩
      have hz' : ¬ ((j + 1 : Nat) : Int) = 0 := by omega
      obtain ⟨dn, a, rs, d1, d2, d3, d4⟩ := rowD_cons c6
      (repeat decreasing_trivial_pre_omega)
      refine forL_by (enc := encSm) (fun don rest σ M' => ∃ u8 u9, σ = [some (.int n), some (.tup [.tup (st.map U.str), .tup (cls.map U.int)]), some (.ref p), some (encS2 s'), some (.ref q), some (.ref r), some (.int i), some (.int (j + 1 : Nat)), u8, u9] ∧ M' p = some (.dcn (amap encS2 ldU L)) ∧ M' q = some (.lst (pre.map encSm)) ∧ M' r = some (.lst ((smAll n st).map encSm)) ∧ Sub M M' ∧ ∀ b ∈ don, dst n st cls (smStep st s' b) ≠ some j) (smAll n st) ⟨_, _, rfl, c1, c2, c3, c4, fun _ z => nomatch z⟩ ?_ ?_
      · intro don b rest σ M4 k2 eB ⟨v8, v9, e1, f1, f2, f3, f4, f5⟩ hk2
        subst e1
        have hb : b ∈ smAll n st := by rw [← eB]; simp
        have hr' : RchS n st (smStep st s' b) := .step c5 hb
        (repeat decreasing_trivial_pre_omega)
        refine hE st b hst (ordersW ho) M4 _ fun M5 s5 => ?_
        have g1 := s5 _ _ f1
        have g2 := s5 _ _ f2
        have g3 := s5 _ _ f3
        have g4 := f4.trans s5
        (repeat decreasing_trivial_pre_omega)
        refine hA _ s' (eff st b) _ ?_
        rw [← step_eff]
        (repeat decreasing_trivial_pre_omega)
        refine d_getN g1 rfl ?_
        rw [show (U.int 99) = U.int ((99 : Nat) : Int) from rfl, ld_get]
        (repeat decreasing_trivial_pre_omega)
        by_cases hd : dst n st cls (smStep st s' b) = some j
        · rw [(hL.at_ _ _).mpr ⟨hr', hd⟩]
          have hjj : (((some j).getD 99 : Nat) : Int) = ((j + 1 : Nat) : Int) - 1 := by simp
          (repeat decreasing_trivial_pre_omega)
          refine m_app g2 (by rw [List.length_map]; omega) ?_
          (repeat decreasing_trivial_pre_omega)
          have hba : b = a := by
            rcases find_uniq eB d1 (p := fun x => decide (dst n st cls (smStep st s' x) = some j)) (fun x hx => decide_eq_false (f5 x hx)) (fun x hx => decide_eq_false (d3 x hx)) (decide_eq_true hd) (decide_eq_true d2) with z
            exact z
          subst hba
          refine hk _ _ trivial ⟨_, _, _, _, smStep st s' b, pre ++ [b], j, rfl, um_oth hpq g1, by rw [um_same]; simp, um_oth hqr.symm g3, sub_um g4 hq0, hr', hd, by omega, by simp [c8], ?_⟩
          rw [← c9, d4, List.append_assoc]
          rfl
        · have hjj : ¬ (((aget L (smStep st s' b)).getD 99 : Nat) : Int) = ((j + 1 : Nat) : Int) - 1 := by
            cases hx : aget L (smStep st s' b) with
            | none => simp; omega
            | some j' =>
              have := ((hL.at_ _ _).mp hx).2
              intro z
              apply hd
              rw [this]
              simp at z
              congr 1
              omega
          (repeat decreasing_trivial_pre_omega)
          refine hk2 _ _ g3 ⟨_, _, rfl, g1, g2, g3, g4, fun x hx => ?_⟩
          rcases List.mem_append.mp hx with z | z
          · exact f5 x z
          · rw [List.mem_singleton.mp z]; exact hd
      · intro σ M4 ⟨v8, v9, e1, f1, f2, f3, f4, f5⟩
        exact absurd d2 (f5 a (by rw [← d1]; simp))
  · intro σ M3 ⟨u6, u7, u8, u9, s', pre, m', e1, c1, c2, c3, c4, c5, c6, c7, c8, c9⟩
    omega
def RowFromC (C : CE) (f : Nat) : Prop := ∀ (M : Hm) (n : Nat) (st : List Str) (cls : List Int) (p : Addr) (L : Ld) (s : S2) (m : Nat) (Q : QU), n ≤ 4 → st ∈ ordersL → M p = some (leftM L) → LAll n st cls L → RchS n st s → dst n st cls s = some m → (∀ M', Sub M M' → Q (encRow (rowD n st cls s)) M') → C f [.int n, kpT st cls, .ref p, encS2 s] M Q
/-- what cut_table is due to tell -/
def DueU (n : Nat) (st : List Str) (cls : List Int) (u : U) : Prop := (dst n st cls S0 ≠ none ∧ u = .tup [.str "unsafe", encRow (rowD n st cls S0)]) ∨ (dst n st cls S0 = none ∧ ∃ D : List S2, D.Nodup ∧ (∀ s, s ∈ D ↔ RchS n st s) ∧ u = .tup [.str "safe", .tup (sortU (D.map encS2))])
theorem encS2_tok (a b : S2) (h : W.keyToks (pd (encS2 a)) = W.keyToks (pd (encS2 b))) : a = b := by
  obtain ⟨a1, a2⟩ := a
  obtain ⟨b1, b2⟩ := b
  simp [encS2, pd, pdL, W.keyToks, W.keyToksAll] at h
  exact Prod.ext h.1 h.2
theorem DueU.one {n : Nat} {st : List Str} {cls : List Int} {u u' : U} (h : DueU n st cls u) (h' : DueU n st cls u') : u = u' := by
  rcases h with ⟨a, rfl⟩ | ⟨a, D, b, c, rfl⟩
  · rcases h' with ⟨_, rfl⟩ | ⟨a', _⟩
    · rfl
    · exact absurd a' a
  · rcases h' with ⟨a', _⟩ | ⟨_, D', b', c', rfl⟩
    · exact absurd a a'
    · rw [sort_perm encS2_tok ((List.perm_ext_iff_of_nodup b b').mpr fun s => (c s).trans (c' s).symm)]
theorem law_due_ok {fr fe ff : Nat} (hR : ReachC C fr) (hE : EffsC C fe) (hF : RowFromC C ff) {n : Nat} {st : List Str} {cls : List Int} {p : Addr} {L : Ld} (hn : n ≤ 4) (ho : st ∈ ordersL) (hp : M p = some (leftM L)) (hL : LAll n st cls L)
    (hq : ∀ u M', Sub M M' → DueU n st cls u → rt u M') : wS C (B_law_due fr fe ff) ⟨nx, rt, bk, ct⟩ (startU 3 [.int n, kpT st cls, .ref p]) M := by
  have hlim : LIM = 100000 := rfl
  have hp' := hp
  unfold leftM at hp
  unfold B_law_due kpT
  (repeat decreasing_trivial_pre_omega)
  refine in_dcn hp rfl ?_
  rw [show U.tup [.int (-3), .int (-3)] = encS2 S0 from rfl, dfind_amap encS2_inj, Option.isSome_map]
  cases hg : aget L S0 with
  | some m =>
    have hd := ((hL.at_ _ _).mp hg).2
    (repeat decreasing_trivial_pre_omega)
    refine hF M n st cls p L S0 m _ hn ho hp' hL .start hd fun M1 s1 => ?_
    (repeat decreasing_trivial_pre_omega)
    exact hq _ _ s1 (.inl ⟨by rw [hd]; simp, rfl⟩)
  | none =>
    have hd : dst n st cls S0 = none := by
      cases z : dst n st cls S0 with
      | none => rfl
      | some m =>
        have h2 : aget L S0 = some m := (hL.at_ S0 m).mpr ⟨.start, z⟩
        exact absurd (hg.symm.trans h2) (by simp)
    (repeat decreasing_trivial_pre_omega)
    intro q hq0
    have q1 : (um M q (.lst [.tup [.int (-3), .int (-3)]])) q = some (.lst ([S0].map encS2)) := um_same
    have s2 : Sub M (um M q (.lst [.tup [.int (-3), .int (-3)]])) := sub_um (Sub.refl _) hq0
    generalize um M q (.lst [.tup [.int (-3), .int (-3)]]) = M2 at *
    (repeat decreasing_trivial_pre_omega)
    refine hE _ n st _ hn ho fun e E M3 e0 s3 he hE2 _ => ?_
    (repeat decreasing_trivial_pre_omega)
    refine hR M3 E [S0] (gridL n) q e _ (s3 _ _ q1) he (by simp) (fun s hs => grid_mem (rch_grid ((rchE_iff hE2 s).mp hs))) (grid_le hn) fun r R M4 r0 s4 hr nd hRm _ => ?_
    have hRc : ∀ s, s ∈ R ↔ RchS n st s := fun s => (hRm s).trans (rchE_iff hE2 s)
    have hRl := rch_len hn nd fun s hs => (hRc s).mp hs
    (repeat decreasing_trivial_pre_omega)
    refine f_sortL hr (sortOk_S2 (by omega)) ?_
    intro a ha
    (repeat decreasing_trivial_pre_omega)
    exact hq _ _ (sub_new ((s2.trans s3).trans s4) ha) (.inr ⟨hd, R, nd, hRc, rfl⟩)
def DueC (C : CE) (f : Nat) : Prop := ∀ (M : Hm) (n : Nat) (st : List Str) (cls : List Int) (p : Addr) (L : Ld) (Q : QU), n ≤ 4 → st ∈ ordersL → M p = some (leftM L) → LAll n st cls L → (∀ u M', Sub M M' → DueU n st cls u → Q u M') → C f [.int n, kpT st cls, .ref p] M Q
end
end Pl.Tq

set_option maxHeartbeats 1000000
/-! k80: the program's judge -/
namespace Pl.Tq
open PySem L2 K79
def B_is_int : S := (.seq (.ret (.ands (.cons (.isinst (.var 0) "int") (.cons (.not (.isinst (.var 0) "bool")) .nil)))) .skip)
def B_is_content (is_int : Nat) : S := (.seq (.ret (.ands (.cons (.call is_int (.cons (.var 1) .nil)) (.cons (.chain .le .lt (.neg (.int 1)) (.var 1) (.var 0)) .nil)))) .skip)
def B_is_small_state (is_int : Nat) : S := (.seq (.ifs (.ors (.cons (.not (.isinst (.var 1) "tuple")) (.cons (.cmp .ne (.blt .len (.cons (.var 1) .nil)) (.int 2)) .nil))) (.seq (.ret (.bl false)) .skip) .skip) (.seq (.asgT [2, 3] (.var 1)) (.seq (.ifs (.ors (.cons (.not (.call is_int (.cons (.var 2) .nil))) (.cons (.not (.call is_int (.cons (.var 3) .nil))) .nil))) (.seq (.ret (.bl false)) .skip) .skip) (.seq (.ret (.ands (.cons (.chain .le .lt (.gint "EMPTY" (-3)) (.var 2) (.var 0)) (.cons (.chain .le .lt (.gint "EMPTY" (-3)) (.var 3) (.var 0)) (.cons (.cmp .ne (.var 3) (.neg (.int 1))) .nil))))) .skip))))
def B_is_cut (is_int : Nat) : S := (.seq (.ifs (.isN (.var 0)) (.seq (.ret (.bl true)) .skip) .skip) (.seq (.ifs (.ors (.cons (.not (.isinst (.var 0) "tuple")) (.cons (.cmp .ne (.blt .len (.cons (.var 0) .nil)) (.int 2)) .nil))) (.seq (.ret (.bl false)) .skip) .skip) (.seq (.ret (.ands (.cons (.call is_int (.cons (.ix (.var 0) (.int 0)) .nil)) (.cons (.cmp .ge (.ix (.var 0) (.int 0)) (.int 0)) (.cons (.isinst (.ix (.var 0) (.int 1)) "bool") .nil))))) .skip)))
def B_is_small_store (is_cut : Nat) (is_content : Nat) : S := (.seq (.ifs (.ors (.cons (.not (.isinst (.var 1) "tuple")) (.cons (.cmp .ne (.blt .len (.cons (.var 1) .nil)) (.int 2)) .nil))) (.seq (.ret (.bl false)) .skip) .skip) (.seq (.ret (.ands (.cons (.call is_content (.cons (.var 0) (.cons (.ix (.var 1) (.int 0)) .nil))) (.cons (.call is_cut (.cons (.ix (.var 1) (.int 1)) .nil)) .nil)))) .skip))
/-- plain things, some levels deep -/
def plnD : Nat → U → Bool
  | _, .non => true
  | _, .bl _ => true
  | _, .int _ => true
  | _, .str _ => true
  | 0, .tup _ => true
  | n + 1, .tup l => l.all (plnD n)
  | _, _ => false
def isIU : U → Bool
  | .int _ => true
  | _ => false
def contU (n : Nat) : U → Bool
  | .int i => decide (-1 ≤ i) && decide (i < n)
  | _ => false
def cutOk : U → Bool
  | .non => true
  | .tup [.int a, .bl _] => decide (0 ≤ a)
  | _ => false
def smU (n : Nat) : U → Bool
  | .tup [a, b] => contU n a && cutOk b
  | _ => false
def stUU (n : Nat) : U → Bool
  | .tup [.int p, .int q] => (decide (-3 ≤ p) && decide (p < n)) && ((decide (-3 ≤ q) && decide (q < n)) && !decide (q = -1))
  | _ => false
section
variable {C : CE} {nx bk ct : SU → Hm → Prop} {rt : QU} {M : Hm}
theorem is_int_g {u : U} (h : plnD 0 u = true) (hq : rt (.bl (isIU u)) M) : wS C B_is_int ⟨nx, rt, bk, ct⟩ (startU 1 [u]) M := by
  unfold B_is_int
  cases u with
  | ref _ => cases h
  | rol _ => cases h
  | dtp _ => cases h
  | _ =>
    (repeat decreasing_trivial_pre_omega)
    exact hq
def IntG (C : CE) (f : Nat) : Prop := ∀ (M : Hm) (u : U) (Q : QU), plnD 0 u = true → Q (.bl (isIU u)) M → C f [u] M Q
theorem pln0 : ∀ {n : Nat} {u : U}, plnD n u = true → plnD 0 u = true
  | _, .non, _ => rfl
  | _, .bl _, _ => rfl
  | _, .int _, _ => rfl
  | _, .str _, _ => rfl
  | _, .tup _, _ => rfl
  | n, .ref _, h => by cases n <;> cases h
  | n, .rol _, h => by cases n <;> cases h
  | n, .dtp _, h => by cases n <;> cases h
theorem is_content_ok {fi : Nat} (hI : IntG C fi) {n : Nat} {u : U} (h : plnD 0 u = true) (hq : rt (.bl (contU n u)) M) : wS C (B_is_content fi) ⟨nx, rt, bk, ct⟩ (startU 2 [.int n, u]) M := by
  unfold B_is_content
  (repeat decreasing_trivial_pre_omega)
  refine hI M u _ h ?_
  cases u with
  | ref _ => cases h
  | rol _ => cases h
  | dtp _ => cases h
  | int i =>
    simp only [isIU]
    have hq : rt (.bl (decide (-1 ≤ i) && decide (i < n))) M := hq
    by_cases h1 : -1 ≤ i
    · rw [decide_eq_true h1, Bool.true_and] at hq
      (repeat decreasing_trivial_pre_omega)
      exact hq
    · rw [decide_eq_false h1, Bool.false_and] at hq
      (repeat decreasing_trivial_pre_omega)
      exact hq
  | _ =>
    simp only [isIU]
    (repeat decreasing_trivial_pre_omega)
    exact hq
def ContG (C : CE) (f : Nat) : Prop := ∀ (M : Hm) (n : Nat) (u : U) (Q : QU), plnD 0 u = true → Q (.bl (contU n u)) M → C f [.int n, u] M Q
theorem is_cut_ok {fi : Nat} (hI : IntG C fi) {u : U} (h : plnD 1 u = true) (hq : rt (.bl (cutOk u)) M) : wS C (B_is_cut fi) ⟨nx, rt, bk, ct⟩ (startU 1 [u]) M := by
  unfold B_is_cut
  cases u with
  | ref _ => cases h
  | rol _ => cases h
  | dtp _ => cases h
  | tup l =>
    have hne : ¬ U.tup l = .non := fun z => by cases z
    match l with
    | [] => (repeat decreasing_trivial_pre_omega); exact hq
    | [a] =>
      have : cutOk (.tup [a]) = false := by cases a <;> rfl
      rw [this] at hq
      (repeat decreasing_trivial_pre_omega)
      exact hq
    | a :: b :: c :: l =>
      have : cutOk (.tup (a :: b :: c :: l)) = false := by cases a <;> cases b <;> rfl
      rw [this] at hq
      have hl3 : ¬ (((a :: b :: c :: l).length : Nat) : Int) = 2 := by simp only [List.length_cons]; omega
      (repeat decreasing_trivial_pre_omega)
      exact hq
    | [a, b] =>
      have h2 : plnD 0 a = true ∧ plnD 0 b = true := by simpa [plnD] using h
      (repeat decreasing_trivial_pre_omega)
      refine hI M a _ h2.1 ?_
      have h2a := h2.1
      cases a with
      | ref _ => cases h2a
      | rol _ => cases h2a
      | dtp _ => cases h2a
      | int i =>
        simp only [isIU]
        have h2b := h2.2
        by_cases hi : 0 ≤ i
        · cases b with
          | ref _ => cases h2b
          | rol _ => cases h2b
          | dtp _ => cases h2b
          | bl b =>
            have hq : rt (.bl (decide (0 ≤ i))) M := hq
            rw [decide_eq_true hi] at hq
            (repeat decreasing_trivial_pre_omega)
            exact hq
          | _ =>
            (repeat decreasing_trivial_pre_omega)
            exact hq
        · have e : cutOk (.tup [.int i, b]) = false := by
            cases b with
            | bl b => exact decide_eq_false hi
            | _ => rfl
          rw [e] at hq
          (repeat decreasing_trivial_pre_omega)
          exact hq
      | _ =>
        simp only [isIU]
        (repeat decreasing_trivial_pre_omega)
        exact hq
  | _ =>
    (repeat decreasing_trivial_pre_omega)
    exact hq
def CutG (C : CE) (f : Nat) : Prop := ∀ (M : Hm) (u : U) (Q : QU), plnD 1 u = true → Q (.bl (cutOk u)) M → C f [u] M Q
theorem pln1 {n : Nat} {l : List U} (h : plnD (n + 1) (.tup l) = true) : ∀ x ∈ l, plnD n x = true := List.all_eq_true.mp h
theorem is_small_store_ok {fc fn : Nat} (hC : CutG C fc) (hN : ContG C fn) {n : Nat} {u : U} (h : plnD 2 u = true) (hq : rt (.bl (smU n u)) M) : wS C (B_is_small_store fc fn) ⟨nx, rt, bk, ct⟩ (startU 2 [.int n, u]) M := by
  unfold B_is_small_store
  cases u with
  | ref _ => cases h
  | rol _ => cases h
  | dtp _ => cases h
  | tup l =>
    match l with
    | [] => (repeat decreasing_trivial_pre_omega); exact hq
    | [a] => (repeat decreasing_trivial_pre_omega); exact hq
    | a :: b :: c :: l =>
      have hl3 : ¬ (((a :: b :: c :: l).length : Nat) : Int) = 2 := by simp only [List.length_cons]; omega
      (repeat decreasing_trivial_pre_omega)
      exact hq
    | [a, b] =>
      have ha := pln1 h a (by simp)
      have hb := pln1 h b (by simp)
      (repeat decreasing_trivial_pre_omega)
      refine hN M n a _ (pln0 ha) ?_
      have hq : rt (.bl (contU n a && cutOk b)) M := hq
      cases hc : contU n a with
      | false =>
        rw [hc, Bool.false_and] at hq
        (repeat decreasing_trivial_pre_omega)
        exact hq
      | true =>
        rw [hc, Bool.true_and] at hq
        (repeat decreasing_trivial_pre_omega)
        exact hC M b _ hb hq
  | _ =>
    (repeat decreasing_trivial_pre_omega)
    exact hq
def SmG (C : CE) (f : Nat) : Prop := ∀ (M : Hm) (n : Nat) (u : U) (Q : QU), plnD 2 u = true → Q (.bl (smU n u)) M → C f [.int n, u] M Q
theorem is_small_state_ok {fi : Nat} (hI : IntG C fi) {n : Nat} {u : U} (h : plnD 1 u = true) (hq : rt (.bl (stUU n u)) M) : wS C (B_is_small_state fi) ⟨nx, rt, bk, ct⟩ (startU 4 [.int n, u]) M := by
  unfold B_is_small_state
  cases u with
  | ref _ => cases h
  | rol _ => cases h
  | dtp _ => cases h
  | tup l =>
    match l with
    | [] => (repeat decreasing_trivial_pre_omega); exact hq
    | [a] =>
      have e : stUU n (.tup [a]) = false := by cases a <;> rfl
      rw [e] at hq
      (repeat decreasing_trivial_pre_omega)
      exact hq
    | a :: b :: c :: l =>
      have e : stUU n (.tup (a :: b :: c :: l)) = false := by cases a <;> cases b <;> rfl
      rw [e] at hq
      have hl3 : ¬ (((a :: b :: c :: l).length : Nat) : Int) = 2 := by simp only [List.length_cons]; omega
      (repeat decreasing_trivial_pre_omega)
      exact hq
    | [a, b] =>
      have ha := pln1 h a (by simp)
      have hb := pln1 h b (by simp)
      (repeat decreasing_trivial_pre_omega)
      refine hI M a _ ha ?_
      cases a with
      | ref _ => cases ha
      | rol _ => cases ha
      | dtp _ => cases ha
      | int p =>
        simp only [isIU]
        (repeat decreasing_trivial_pre_omega)
        refine hI M b _ hb ?_
        cases b with
        | ref _ => cases hb
        | rol _ => cases hb
        | dtp _ => cases hb
        | int q =>
          simp only [isIU]
          have hq : rt (.bl ((decide (-3 ≤ p) && decide (p < n)) && ((decide (-3 ≤ q) && decide (q < n)) && !decide (q = -1)))) M := hq
          by_cases h1 : -3 ≤ p
          · by_cases h2 : p < n
            · by_cases h3 : -3 ≤ q
              · by_cases h4 : q < n
                · rw [decide_eq_true h1, decide_eq_true h2, decide_eq_true h3, decide_eq_true h4] at hq
                  (repeat decreasing_trivial_pre_omega)
                  exact hq
                · rw [decide_eq_true h1, decide_eq_true h2, decide_eq_true h3, decide_eq_false h4] at hq
                  (repeat decreasing_trivial_pre_omega)
                  exact hq
              · rw [decide_eq_true h1, decide_eq_true h2, decide_eq_false h3] at hq
                (repeat decreasing_trivial_pre_omega)
                exact hq
            · rw [decide_eq_true h1, decide_eq_false h2] at hq
              (repeat decreasing_trivial_pre_omega)
              exact hq
          · rw [decide_eq_false h1] at hq
            (repeat decreasing_trivial_pre_omega)
            exact hq
        | _ =>
          simp only [isIU]
          (repeat decreasing_trivial_pre_omega)
          exact hq
      | _ =>
        simp only [isIU]
        (repeat decreasing_trivial_pre_omega)
        exact hq
  | _ =>
    (repeat decreasing_trivial_pre_omega)
    exact hq
def StG (C : CE) (f : Nat) : Prop := ∀ (M : Hm) (n : Nat) (u : U) (Q : QU), plnD 1 u = true → Q (.bl (stUU n u)) M → C f [.int n, u] M Q
end
end Pl.Tq

set_option maxHeartbeats 1000000
/-! k80: both judges -/
namespace Pl.Tq
open PySem L2 K79
def B_are_closed (small_step : Nat) (small_stores : Nat) : S := (.seq (.asg 3 .dnewN) (.seq (.for_ (.one 4) (.iSeq (.var 2)) (.seq (.setIx (.var 3) (.var 4) (.bl true)) .skip)) (.seq (.asg 5 (.call small_stores (.cons (.var 0) (.cons (.var 1) .nil)))) (.seq (.for_ (.one 4) (.iSeq (.blt .list (.cons (.var 3) .nil))) (.seq (.for_ (.one 6) (.iSeq (.var 5)) (.seq (.ifs (.cmp .notin (.call small_step (.cons (.var 1) (.cons (.var 4) (.cons (.var 6) .nil)))) (.var 3)) (.seq (.ret (.bl false)) .skip) .skip) .skip)) .skip)) (.seq (.ret (.bl true)) .skip)))))
def B_shows_safe (are_closed : Nat) (is_wrong : Nat) (is_small_state : Nat) : S := (.seq (.asgT [3, 4] (.var 1)) (.seq (.ifs (.not (.blt .all (.cons (.comp [("state", 5)] (.one 5) (.iSeq (.var 2)) .nil (.call is_small_state (.cons (.var 0) (.cons (.var 5) .nil)))) .nil))) (.seq (.ret (.bl false)) .skip) .skip) (.seq (.ifs (.ors (.cons (.cmp .notin (.gtup "START" [(-3), (-3)]) (.var 2)) (.cons (.blt .any (.cons (.comp [("state", 5)] (.one 5) (.iSeq (.var 2)) .nil (.call is_wrong (.cons (.var 4) (.cons (.var 5) .nil)))) .nil)) .nil))) (.seq (.ret (.bl false)) .skip) .skip) (.seq (.ret (.call are_closed (.cons (.var 0) (.cons (.var 3) (.cons (.var 2) .nil))))) .skip))))
def B_shows_unsafe (is_wrong : Nat) (small_step : Nat) (is_small_store : Nat) : S := (.seq (.asgT [3, 4] (.var 1)) (.seq (.ifs (.not (.blt .all (.cons (.comp [("small", 5)] (.one 5) (.iSeq (.var 2)) .nil (.call is_small_store (.cons (.var 0) (.cons (.var 5) .nil)))) .nil))) (.seq (.ret (.bl false)) .skip) .skip) (.seq (.asg 6 (.gtup "START" [(-3), (-3)])) (.seq (.for_ (.one 5) (.iSeq (.var 2)) (.seq (.asg 6 (.call small_step (.cons (.var 3) (.cons (.var 6) (.cons (.var 5) .nil))))) .skip)) (.seq (.ret (.call is_wrong (.cons (.var 4) (.cons (.var 6) .nil)))) .skip)))))
def B_judge_cut (shows_unsafe : Nat) (shows_safe : Nat) : S := (.seq (.ifs (.ors (.cons (.not (.isinst (.var 2) "tuple")) (.cons (.cmp .ne (.blt .len (.cons (.var 2) .nil)) (.int 2)) (.cons (.not (.isinst (.ix (.var 2) (.int 1)) "tuple")) .nil)))) (.seq (.ret (.bl false)) .skip) .skip) (.seq (.ifs (.cmp .eq (.ix (.var 2) (.int 0)) (.str "safe")) (.seq (.ret (.call shows_safe (.cons (.var 0) (.cons (.var 1) (.cons (.ix (.var 2) (.int 1)) .nil))))) .skip) .skip) (.seq (.ret (.ands (.cons (.cmp .eq (.ix (.var 2) (.int 0)) (.str "unsafe")) (.cons (.call shows_unsafe (.cons (.var 0) (.cons (.var 1) (.cons (.ix (.var 2) (.int 1)) .nil)))) .nil)))) .skip)))
def SmSt (n : Nat) (s : S2) : Prop := GrS n s ∧ s.2 ≠ -1
def RowOk (n : Nat) (row : List Sm) : Prop := ∀ sm ∈ row, -1 ≤ sm.1 ∧ sm.1 < n
def Closed (n : Nat) (st : List Str) (X : List S2) : Prop := ∀ x ∈ X, ∀ sm ∈ smAll n st, smStep st x sm ∈ X
def JS (n : Nat) (st : List Str) (cls : List Int) (X : List S2) : Prop := S0 ∈ X ∧ (∀ x ∈ X, wrongS cls x = false) ∧ Closed n st X
theorem sm_norm {n : Nat} {st : List Str} {sm : Sm} (h : -1 ≤ sm.1 ∧ sm.1 < n) : ∃ sm' ∈ smAll n st, ∀ s, smStep st s sm = smStep st s sm' := by
  obtain ⟨c, k⟩ := sm
  rcases k with _ | ⟨i, b⟩
  · exact ⟨(c, none), smAll_mem.mpr ⟨h, .inl rfl⟩, fun _ => rfl⟩
  · by_cases hi : i < (smW st c).length
    · exact ⟨(c, some (i, b)), smAll_mem.mpr ⟨h, .inr ⟨i, b, rfl, hi⟩⟩, fun _ => rfl⟩
    · refine ⟨(c, none), smAll_mem.mpr ⟨h, .inl rfl⟩, fun s => ?_⟩
      have e : doneN (smW st c).length (some (i, b)) = doneN (smW st c).length none := by rw [doneN_some, if_pos (by omega)]; rfl
      unfold smStep
      dsimp only
      rw [e]
theorem row_grid {n : Nat} {st : List Str} : ∀ (row : List Sm) (s : S2), GrS n s → RowOk n row → GrS n (row.foldl (smStep st) s)
  | [], _, h, _ => h
  | sm :: row, s, h, hr => by
    obtain ⟨sm', h1, h2⟩ := sm_norm (st := st) (hr sm List.mem_cons_self)
    refine row_grid row _ ?_ fun x hx => hr x (List.mem_cons_of_mem _ hx)
    rw [h2]
    exact step_grid h h1
theorem row_rch {n : Nat} {st : List Str} : ∀ (row : List Sm) (s : S2), RchS n st s → RowOk n row → RchS n st (row.foldl (smStep st) s)
  | [], _, h, _ => h
  | sm :: row, s, h, hr => by
    obtain ⟨sm', h1, h2⟩ := sm_norm (st := st) (hr sm List.mem_cons_self)
    refine row_rch row _ ?_ fun x hx => hr x (List.mem_cons_of_mem _ hx)
    rw [h2]
    exact .step h h1
theorem S0_grid (n : Nat) : GrS n S0 := ⟨⟨by decide, by show (-3 : Int) < n; omega⟩, by decide, by show (-3 : Int) < n; omega⟩
theorem st_enc {n : Nat} {s : S2} : stUU n (encS2 s) = true ↔ SmSt n s := by
  obtain ⟨p, q⟩ := s
  show ((decide (-3 ≤ p) && decide (p < n)) && ((decide (-3 ≤ q) && decide (q < n)) && !decide (q = -1))) = true ↔ _
  simp only [Bool.and_eq_true, decide_eq_true_eq, Bool.not_eq_true', decide_eq_false_iff_not]
  unfold SmSt GrS
  exact ⟨fun ⟨⟨a, b⟩, ⟨c, d⟩, e⟩ => ⟨⟨⟨a, b⟩, c, d⟩, e⟩, fun ⟨⟨⟨a, b⟩, c, d⟩, e⟩ => ⟨⟨a, b⟩, ⟨c, d⟩, e⟩⟩
theorem sm_enc {n : Nat} {sm : Sm} (h : -1 ≤ sm.1 ∧ sm.1 < n) : smU n (encSm sm) = true := by
  obtain ⟨c, k⟩ := sm
  dsimp only at h
  show (contU n (.int c) && cutOk (cutV k)) = true
  have h1 : contU n (.int c) = true := by
    show (decide (-1 ≤ c) && decide (c < n)) = true
    rw [decide_eq_true h.1, decide_eq_true h.2]
    rfl
  rw [h1, Bool.true_and]
  rcases k with _ | ⟨i, b⟩
  · rfl
  · exact decide_eq_true (show (0 : Int) ≤ (i : Nat) by omega)
theorem pln_S2 (s : S2) : plnD 1 (encS2 s) = true := rfl
theorem pln_Sm (sm : Sm) : plnD 2 (encSm sm) = true := by
  obtain ⟨c, k⟩ := sm
  rcases k with _ | ⟨i, b⟩ <;> rfl
section
variable {C : CE} {nx bk ct : SU → Hm → Prop} {rt : QU} {M : Hm}
theorem are_closed_ok {fs fa : Nat} (hS : SmStepC C fs) (hA : SmallsC C fa) {n : Nat} {st : List Str} {X : List S2} (hn : n ≤ 4) (hst : st.length ≤ 3) (nd : X.Nodup) (hX : X.length ≤ 100) (hq : ∀ b M', Sub M M' → (b = true ↔ Closed n st X) → rt (.bl b) M') :
    wS C (B_are_closed fs fa) ⟨nx, rt, bk, ct⟩ (startU 7 [.int n, stT st, .tup (X.map encS2)]) M := by
  have hlim : LIM = 100000 := rfl
  unfold B_are_closed stT
  (repeat decreasing_trivial_pre_omega)
  intro p hp0
  have p1 : (um M p (.dcn [])) p = some (.dcn (metU [])) := um_same
  have s1 : Sub M (um M p (.dcn [])) := sub_um (Sub.refl _) hp0
  generalize um M p (.dcn []) = M1 at *
  (repeat decreasing_trivial_pre_omega)
  refine forL_by (enc := encS2) (fun don rest σ M' => ∃ u4, σ = [some (.int n), some (.tup (st.map U.str)), some (.tup (X.map encS2)), some (.ref p), u4, none, none] ∧ M' p = some (.dcn (metU don)) ∧ Sub M M') X ⟨none, rfl, p1, s1⟩ ?_ ?_
  · intro don s rest σ M2 k e ⟨u4, e1, b1, b2⟩ hk
    subst e1
    have hsd : s ∉ don := fun z => by
      rw [← e, List.nodup_append] at nd
      exact nd.2.2 s z s (by simp) rfl
    have hdl : don.length ≤ 100 := by
      have : don.length ≤ X.length := by rw [← e]; simp
      omega
    (repeat decreasing_trivial_pre_omega)
    refine st_dcn b1 rfl (by rw [metU_len]; omega) ?_
    rw [metU_put hsd]
    (repeat decreasing_trivial_pre_omega)
    exact hk _ _ trivial ⟨_, rfl, um_same, sub_um b2 hp0⟩
  intro σ M2 ⟨u4, e1, b1, b2⟩
  subst e1
  (repeat decreasing_trivial_pre_omega)
  refine hA n st hn hst M2 _ fun M3 s3 => ?_
  have b3 := s3 _ _ b1
  have b4 := b2.trans s3
  (repeat decreasing_trivial_pre_omega)
  intro a ha
  have ek : (metU X).map (·.1) = X.map encS2 := by
    unfold metU
    rw [amap_keys, List.map_map, List.map_map]
    rfl
  rw [ek]
  have b5 := um_old (o := .lst (X.map encS2)) b3 ha
  have a5 : (um M3 a (.lst (X.map encS2))) a = some (.lst (X.map encS2)) := um_same
  have s5 := sub_new (o := .lst (X.map encS2)) b4 ha
  generalize um M3 a (.lst (X.map encS2)) = M4 at *
  (repeat decreasing_trivial_pre_omega)
  refine forL_by (enc := encS2) (fun don rest σ M' => ∃ u4 u6, σ = [some (.int n), some (.tup (st.map U.str)), some (.tup (X.map encS2)), some (.ref p), u4, some (.tup ((smAll n st).map encSm)), u6] ∧ M' p = some (.dcn (metU X)) ∧ M' a = some (.lst (X.map encS2)) ∧ Sub M M' ∧ ∀ x ∈ don, ∀ sm ∈ smAll n st, smStep st x sm ∈ X) X ⟨_, _, rfl, b5, a5, s5, fun _ z => nomatch z⟩ ?_ ?_
  · intro don s rest σ M5 k e ⟨u4, u6, e1, c1, c2, c3, c4⟩ hk
    subst e1
    have hsX : s ∈ X := by rw [← e]; simp
    (repeat decreasing_trivial_pre_omega)
    refine forL_by (enc := encSm) (fun dn rs σ M' => ∃ u6, σ = [some (.int n), some (.tup (st.map U.str)), some (.tup (X.map encS2)), some (.ref p), some (encS2 s), some (.tup ((smAll n st).map encSm)), u6] ∧ M' p = some (.dcn (metU X)) ∧ M' a = some (.lst (X.map encS2)) ∧ Sub M M' ∧ ∀ sm ∈ dn, smStep st s sm ∈ X) (smAll n st) ⟨_, rfl, c1, c2, c3, fun _ z => nomatch z⟩ ?_ ?_
    · intro dn sm rs σ M6 k2 e2 ⟨v6, e1, d1, d2, d3, d4⟩ hk2
      subst e1
      have hsm : sm ∈ smAll n st := by rw [← e2]; simp
      (repeat decreasing_trivial_pre_omega)
      refine hS st s sm hst M6 _ fun M7 s7 => ?_
      have f1 := s7 _ _ d1
      have f2 := s7 _ _ d2
      (repeat decreasing_trivial_pre_omega)
      refine nin_dcn f1 rfl ?_
      rw [metU_find]
      by_cases hx : smStep st s sm ∈ X
      · rw [if_neg (by simpa using hx)]
        (repeat decreasing_trivial_pre_omega)
        refine hk2 _ _ trivial ⟨_, rfl, f1, f2, d3.trans s7, fun x hx' => ?_⟩
        rcases List.mem_append.mp hx' with z | z
        · exact d4 x z
        · rw [List.mem_singleton.mp z]; exact hx
      · rw [if_pos (by simpa using hx)]
        (repeat decreasing_trivial_pre_omega)
        exact hq false _ (d3.trans s7) ⟨fun z => (nomatch z), fun z => absurd (z s hsX sm hsm) hx⟩
    · intro σ M6 ⟨v6, e1, d1, d2, d3, d4⟩
      subst e1
      (repeat decreasing_trivial_pre_omega)
      refine hk _ _ d2 ⟨_, _, rfl, d1, d2, d3, fun x hx => ?_⟩
      rcases List.mem_append.mp hx with z | z
      · exact c4 x z
      · rw [List.mem_singleton.mp z]; exact d4
  · intro σ M5 ⟨u4, u6, e1, c1, c2, c3, c4⟩
    subst e1
    (repeat decreasing_trivial_pre_omega)
    exact hq true _ c3 ⟨fun _ => c4, fun _ => rfl⟩
def ClosedC (C : CE) (f : Nat) : Prop := ∀ (M : Hm) (n : Nat) (st : List Str) (X : List S2) (Q : QU), n ≤ 4 → st.length ≤ 3 → X.Nodup → X.length ≤ 100 → (∀ b M', Sub M M' → (b = true ↔ Closed n st X) → Q (.bl b) M') → C f [.int n, stT st, .tup (X.map encS2)] M Q
theorem all_map {α : Type} {f : α → Bool} {l : List α} : (l.map f).all id = true ↔ ∀ x ∈ l, f x = true := by
  rw [List.all_map, List.all_eq_true]
  exact Iff.rfl
theorem shows_safe_ok {fc fw fs : Nat} (hC : ClosedC C fc) (hW : WrongC C fw) (hS : StG C fs) {n : Nat} {st : List Str} {cls : List Int} {X : List S2} (hn : n ≤ 4) (hst : st.length ≤ 3) (hc : ClOk n cls) (nd : X.Nodup) (hX : X.length ≤ 100) (hsm : ∀ x ∈ X, SmSt n x) (hq : ∀ b M', Sub M M' → (b = true ↔ JS n st cls X) → rt (.bl b) M') :
    wS C (B_shows_safe fc fw fs) ⟨nx, rt, bk, ct⟩ (startU 6 [.int n, kpT st cls, .tup (X.map encS2)]) M := by
  have hlim : LIM = 100000 := rfl
  unfold B_shows_safe kpT
  (repeat decreasing_trivial_pre_omega)
  refine compL_by (enc := encS2) (fun don rest acc M' => M' = M ∧ acc = (don.map fun x => stUU n (encS2 x)).map U.bl) X ⟨rfl, rfl⟩ ?_ ?_
  · intro don x rest acc M1 k e ⟨e1, e2⟩ hk
    subst e1 e2
    have hdl : don.length ≤ 100 := by
      have : don.length ≤ X.length := by rw [← e]; simp
      omega
    (repeat decreasing_trivial_pre_omega)
    refine hS _ n (encS2 x) _ (pln_S2 x) ?_
    exact hk _ _ trivial (fun _ => by rw [List.length_map, List.length_map]; omega) ⟨rfl, by simp⟩
  intro acc M1 ⟨e1, e2⟩
  subst e1 e2
  intro a ha
  have a1 : (um M1 a (.lst ((X.map fun x => stUU n (encS2 x)).map U.bl))) a = some (.lst ((X.map fun x => stUU n (encS2 x)).map U.bl)) := um_same
  have s1 : Sub M1 (um M1 a (.lst ((X.map fun x => stUU n (encS2 x)).map U.bl))) := sub_um (Sub.refl _) ha
  generalize um M1 a (.lst ((X.map fun x => stUU n (encS2 x)).map U.bl)) = M2 at *
  (repeat decreasing_trivial_pre_omega)
  rw [all_map.mpr fun x hx => st_enc.mpr (hsm x hx)]
  (repeat decreasing_trivial_pre_omega)
  have okX : okL (X.map encS2) = true := List.all_eq_true.mpr fun x hx => by
    obtain ⟨s, _, rfl⟩ := List.mem_map.mp hx
    rfl
  have em : U.tup ([(-3), (-3)].map U.int) ∈ X.map encS2 ↔ S0 ∈ X := by
    rw [List.mem_map]
    exact ⟨fun ⟨x, hx, ex⟩ => by rw [← encS2_inj x S0 ex]; exact hx, fun h => ⟨_, h, rfl⟩⟩
  refine nin_tupD rfl okX ?_
  by_cases h0 : S0 ∈ X
  · rw [decide_eq_true (em.mpr h0)]
    (repeat decreasing_trivial_pre_omega)
    refine compL_by (enc := encS2) (fun don rest acc M' => Sub M2 M' ∧ acc = (don.map fun x => wrongS cls x).map U.bl) X ⟨Sub.refl _, rfl⟩ ?_ ?_
    · intro don x rest acc M3 k e ⟨e1, e2⟩ hk
      subst e2
      have hdl : don.length ≤ 100 := by
        have : don.length ≤ X.length := by rw [← e]; simp
        omega
      (repeat decreasing_trivial_pre_omega)
      refine hW n cls x hc (hsm x (by rw [← e]; simp)).1 M3 _ fun M4 s4 => ?_
      exact hk _ _ trivial (fun _ => by rw [List.length_map, List.length_map]; omega) ⟨e1.trans s4, by simp⟩
    intro acc M3 ⟨e1, e2⟩
    subst e2
    intro c hc0
    have c1 : (um M3 c (.lst ((X.map fun x => wrongS cls x).map U.bl))) c = some (.lst ((X.map fun x => wrongS cls x).map U.bl)) := um_same
    have s3 := sub_new (o := .lst ((X.map fun x => wrongS cls x).map U.bl)) (s1.trans e1) hc0
    generalize um M3 c (.lst ((X.map fun x => wrongS cls x).map U.bl)) = M4 at *
    (repeat decreasing_trivial_pre_omega)
    cases hw : (X.map fun x => wrongS cls x).any id with
    | true =>
      (repeat decreasing_trivial_pre_omega)
      refine hq false _ s3 ⟨fun z => (nomatch z), fun z => ?_⟩
      rw [List.any_map, List.any_eq_true] at hw
      obtain ⟨x, hx, hx2⟩ := hw
      have := z.2.1 x hx
      exact absurd (this.symm.trans hx2) (by decide)
    | false =>
      have hw' : ∀ x ∈ X, wrongS cls x = false := fun x hx => by
        cases z : wrongS cls x with
        | false => rfl
        | true =>
          have : (X.map fun x => wrongS cls x).any id = true := by
            rw [List.any_map, List.any_eq_true]
            exact ⟨x, hx, z⟩
          rw [hw] at this
          cases this
      (repeat decreasing_trivial_pre_omega)
      refine hC M4 n st X _ hn hst nd hX fun b M5 s5 hb => ?_
      exact hq b _ (s3.trans s5) (hb.trans ⟨fun z => ⟨h0, hw', z⟩, fun z => z.2.2⟩)
  · rw [decide_eq_false (fun z => h0 (em.mp z))]
    (repeat decreasing_trivial_pre_omega)
    exact hq false _ s1 ⟨fun z => (nomatch z), fun z => absurd z.1 h0⟩
theorem shows_safe_odd {fc fw fs : Nat} (hS : StG C fs) {n : Nat} {kp u4 u5 : U} {l : List U} (hkp : kp = .tup [u4, u5]) (hl : l.length ≤ 1000) (hp : ∀ x ∈ l, plnD 1 x = true) (ho : ∃ x ∈ l, stUU n x = false) (hq : ∀ M', Sub M M' → rt (.bl false) M') :
    wS C (B_shows_safe fc fw fs) ⟨nx, rt, bk, ct⟩ (startU 6 [.int n, kp, .tup l]) M := by
  have hlim : LIM = 100000 := rfl
  subst hkp
  unfold B_shows_safe
  (repeat decreasing_trivial_pre_omega)
  rw [show l = l.map id from (List.map_id l).symm]
  refine compL_by (enc := id) (fun don rest acc M' => M' = M ∧ acc = (don.map fun x => stUU n x).map U.bl) l ⟨rfl, rfl⟩ ?_ ?_
  · intro don x rest acc M1 k e ⟨e1, e2⟩ hk
    subst e1 e2
    have hdl : don.length ≤ 1000 := by
      have : don.length ≤ l.length := by rw [← e]; simp
      omega
    simp only [id]
    (repeat decreasing_trivial_pre_omega)
    refine hS _ n x _ (hp x (by rw [← e]; simp)) ?_
    exact hk _ _ trivial (fun _ => by rw [List.length_map, List.length_map]; omega) ⟨rfl, by simp⟩
  intro acc M1 ⟨e1, e2⟩
  subst e1 e2
  intro a ha
  have a1 : (um M1 a (.lst ((l.map fun x => stUU n x).map U.bl))) a = some (.lst ((l.map fun x => stUU n x).map U.bl)) := um_same
  have s1 : Sub M1 (um M1 a (.lst ((l.map fun x => stUU n x).map U.bl))) := sub_um (Sub.refl _) ha
  generalize um M1 a (.lst ((l.map fun x => stUU n x).map U.bl)) = M2 at *
  (repeat decreasing_trivial_pre_omega)
  have hf : (l.map fun x => stUU n x).all id = false := by
    cases z : (l.map fun x => stUU n x).all id with
    | false => rfl
    | true =>
      obtain ⟨x, hx, h2⟩ := ho
      have := all_map.mp z x hx
      rw [h2] at this
      cases this
  rw [hf]
  (repeat decreasing_trivial_pre_omega)
  exact hq _ s1
def ShowsC (C : CE) (f : Nat) : Prop := ∀ (M : Hm) (n : Nat) (st : List Str) (cls : List Int) (X : List S2) (Q : QU), n ≤ 4 → st.length ≤ 3 → ClOk n cls → X.Nodup → X.length ≤ 100 → (∀ x ∈ X, SmSt n x) → (∀ b M', Sub M M' → (b = true ↔ JS n st cls X) → Q (.bl b) M') → C f [.int n, kpT st cls, .tup (X.map encS2)] M Q
def ShowsOdd (C : CE) (f : Nat) : Prop := ∀ (M : Hm) (n : Nat) (st : List Str) (cls : List Int) (l : List U) (Q : QU), l.length ≤ 1000 → (∀ x ∈ l, plnD 1 x = true) → (∃ x ∈ l, stUU n x = false) → (∀ M', Sub M M' → Q (.bl false) M') → C f [.int n, kpT st cls, .tup l] M Q
theorem shows_unsafe_ok {fw fs fm : Nat} (hW : WrongC C fw) (hS : SmStepC C fs) (hM : SmG C fm) {n : Nat} {st : List Str} {cls : List Int} {row : List Sm} (hst : st.length ≤ 3) (hc : ClOk n cls) (hl : row.length ≤ 1000) (hr : RowOk n row) (hq : ∀ M', Sub M M' → rt (.bl (wrongS cls (row.foldl (smStep st) S0))) M') :
    wS C (B_shows_unsafe fw fs fm) ⟨nx, rt, bk, ct⟩ (startU 7 [.int n, kpT st cls, encRow row]) M := by
  have hlim : LIM = 100000 := rfl
  unfold B_shows_unsafe kpT encRow
  (repeat decreasing_trivial_pre_omega)
  refine compL_by (enc := encSm) (fun don rest acc M' => M' = M ∧ acc = (don.map fun x => smU n (encSm x)).map U.bl) row ⟨rfl, rfl⟩ ?_ ?_
  · intro don x rest acc M1 k e ⟨e1, e2⟩ hk
    subst e1 e2
    have hdl : don.length ≤ 1000 := by
      have : don.length ≤ row.length := by rw [← e]; simp
      omega
    (repeat decreasing_trivial_pre_omega)
    refine hM _ n (encSm x) _ (pln_Sm x) ?_
    exact hk _ _ trivial (fun _ => by rw [List.length_map, List.length_map]; omega) ⟨rfl, by simp⟩
  intro acc M1 ⟨e1, e2⟩
  subst e1 e2
  intro a ha
  have a1 : (um M1 a (.lst ((row.map fun x => smU n (encSm x)).map U.bl))) a = some (.lst ((row.map fun x => smU n (encSm x)).map U.bl)) := um_same
  have s1 : Sub M1 (um M1 a (.lst ((row.map fun x => smU n (encSm x)).map U.bl))) := sub_um (Sub.refl _) ha
  generalize um M1 a (.lst ((row.map fun x => smU n (encSm x)).map U.bl)) = M2 at *
  (repeat decreasing_trivial_pre_omega)
  rw [all_map.mpr fun x hx => sm_enc (hr x hx)]
  (repeat decreasing_trivial_pre_omega)
  refine forL_by (enc := encSm) (fun don rest σ M' => ∃ u5, σ = [some (.int n), some (.tup [.tup (st.map U.str), .tup (cls.map U.int)]), some (.tup (row.map encSm)), some (.tup (st.map U.str)), some (.tup (cls.map U.int)), u5, some (encS2 (don.foldl (smStep st) S0))] ∧ Sub M1 M') row ⟨none, rfl, s1⟩ ?_ ?_
  · intro don sm rest σ M3 k e ⟨u5, e1, b1⟩ hk
    subst e1
    have hf : (don ++ [sm]).foldl (smStep st) S0 = smStep st (don.foldl (smStep st) S0) sm := by rw [List.foldl_append]; rfl
    (repeat decreasing_trivial_pre_omega)
    refine hS st _ sm hst M3 _ fun M4 s4 => ?_
    rw [← hf]
    (repeat decreasing_trivial_pre_omega)
    exact hk _ _ trivial ⟨_, rfl, b1.trans s4⟩
  · intro σ M3 ⟨u5, e1, b1⟩
    subst e1
    (repeat decreasing_trivial_pre_omega)
    refine hW n cls _ hc (row_grid row S0 (S0_grid n) hr) M3 _ fun M4 s4 => ?_
    exact hq _ (b1.trans s4)
def UnsC (C : CE) (f : Nat) : Prop := ∀ (M : Hm) (n : Nat) (st : List Str) (cls : List Int) (row : List Sm) (Q : QU), st.length ≤ 3 → ClOk n cls → row.length ≤ 1000 → RowOk n row → (∀ M', Sub M M' → Q (.bl (wrongS cls (row.foldl (smStep st) S0))) M') → C f [.int n, kpT st cls, encRow row] M Q
theorem shows_unsafe_odd {fw fs fm : Nat} (hM : SmG C fm) {n : Nat} {kp u4 u5 : U} {l : List U} (hkp : kp = .tup [u4, u5]) (hl : l.length ≤ 1000) (hp : ∀ x ∈ l, plnD 2 x = true) (ho : ∃ x ∈ l, smU n x = false) (hq : ∀ M', Sub M M' → rt (.bl false) M') :
    wS C (B_shows_unsafe fw fs fm) ⟨nx, rt, bk, ct⟩ (startU 7 [.int n, kp, .tup l]) M := by
  have hlim : LIM = 100000 := rfl
  subst hkp
  unfold B_shows_unsafe
  (repeat decreasing_trivial_pre_omega)
  rw [show l = l.map id from (List.map_id l).symm]
  refine compL_by (enc := id) (fun don rest acc M' => M' = M ∧ acc = (don.map fun x => smU n x).map U.bl) l ⟨rfl, rfl⟩ ?_ ?_
  · intro don x rest acc M1 k e ⟨e1, e2⟩ hk
    subst e1 e2
    have hdl : don.length ≤ 1000 := by
      have : don.length ≤ l.length := by rw [← e]; simp
      omega
    simp only [id]
    (repeat decreasing_trivial_pre_omega)
    refine hM _ n x _ (hp x (by rw [← e]; simp)) ?_
    exact hk _ _ trivial (fun _ => by rw [List.length_map, List.length_map]; omega) ⟨rfl, by simp⟩
  intro acc M1 ⟨e1, e2⟩
  subst e1 e2
  intro a ha
  have a1 : (um M1 a (.lst ((l.map fun x => smU n x).map U.bl))) a = some (.lst ((l.map fun x => smU n x).map U.bl)) := um_same
  have s1 : Sub M1 (um M1 a (.lst ((l.map fun x => smU n x).map U.bl))) := sub_um (Sub.refl _) ha
  generalize um M1 a (.lst ((l.map fun x => smU n x).map U.bl)) = M2 at *
  (repeat decreasing_trivial_pre_omega)
  have hf : (l.map fun x => smU n x).all id = false := by
    cases z : (l.map fun x => smU n x).all id with
    | false => rfl
    | true =>
      obtain ⟨x, hx, h2⟩ := ho
      have := all_map.mp z x hx
      rw [h2] at this
      cases this
  rw [hf]
  (repeat decreasing_trivial_pre_omega)
  exact hq _ s1
def UnsOdd (C : CE) (f : Nat) : Prop := ∀ (M : Hm) (n : Nat) (st : List Str) (cls : List Int) (l : List U) (Q : QU), l.length ≤ 1000 → (∀ x ∈ l, plnD 2 x = true) → (∃ x ∈ l, smU n x = false) → (∀ M', Sub M M' → Q (.bl false) M') → C f [.int n, kpT st cls, .tup l] M Q
/-! judge_cut, by the shape of its paper -/
theorem judge_safe {fu fs : Nat} {u : U} {l : List U} {n : Nat} (h : C fs [.int n, u, .tup l] M rt) : wS C (B_judge_cut fu fs) ⟨nx, rt, bk, ct⟩ (startU 3 [.int n, u, .tup [.str "safe", .tup l]]) M := by
  unfold B_judge_cut
  (repeat decreasing_trivial_pre_omega)
  exact h
theorem judge_unsafe {fu fs : Nat} {u : U} {l : List U} {n : Nat} (h : C fu [.int n, u, .tup l] M rt) : wS C (B_judge_cut fu fs) ⟨nx, rt, bk, ct⟩ (startU 3 [.int n, u, .tup [.str "unsafe", .tup l]]) M := by
  unfold B_judge_cut
  (repeat decreasing_trivial_pre_omega)
  exact h
end
end Pl.Tq

set_option maxHeartbeats 1000000
/-! k80: judge_cut at odd shapes; the law's judge -/
namespace Pl.Tq
open PySem L2 K79
def B_law_walked (law_after : Nat) (law_effect : Nat) : S := (.seq (.asg 2 (.tup (.cons (.neg (.int 3)) (.cons (.neg (.int 3)) .nil)))) (.seq (.for_ (.one 3) (.iSeq (.var 1)) (.seq (.asg 2 (.call law_after (.cons (.var 2) (.cons (.call law_effect (.cons (.ix (.var 0) (.int 0)) (.cons (.var 3) .nil))) .nil)))) .skip)) (.seq (.ret (.var 2)) .skip)))
def B_law_takes (law_after : Nat) (law_wrong : Nat) (law_effects : Nat) (law_walked : Nat) : S := (.seq (.ifs (.cmp .eq (.ix (.var 2) (.int 0)) (.str "unsafe")) (.seq (.ret (.call law_wrong (.cons (.ix (.var 1) (.int 1)) (.cons (.call law_walked (.cons (.var 1) (.cons (.ix (.var 2) (.int 1)) .nil))) .nil)))) .skip) .skip) (.seq (.asg 3 .dnewN) (.seq (.for_ (.one 4) (.iSeq (.ix (.var 2) (.int 1))) (.seq (.setIx (.var 3) (.var 4) (.bl true)) .skip)) (.seq (.asg 5 (.call law_effects (.cons (.var 0) (.cons (.ix (.var 1) (.int 0)) .nil)))) (.seq (.for_ (.one 4) (.iSeq (.ix (.var 2) (.int 1))) (.seq (.ifs (.call law_wrong (.cons (.ix (.var 1) (.int 1)) (.cons (.var 4) .nil))) (.seq (.ret (.bl false)) .skip) .skip) (.seq (.for_ (.one 6) (.iSeq (.var 5)) (.seq (.ifs (.cmp .notin (.call law_after (.cons (.var 4) (.cons (.var 6) .nil))) (.var 3)) (.seq (.ret (.bl false)) .skip) .skip) .skip)) .skip))) (.seq (.ret (.cmp .isin (.tup (.cons (.neg (.int 3)) (.cons (.neg (.int 3)) .nil))) (.var 3))) .skip))))))
theorem eq_ts {M : Hm} {T : Bool → Hm → Prop} {l : List U} {s : Str} (h1 : okU (.tup l) = true) (h2 : okS s = true) (q : T false M) : eqW (.tup l) (.str s) M T := ⟨h1, h2, by rw [decide_eq_false (fun z => by cases z)]; exact q⟩
theorem eq_is {M : Hm} {T : Bool → Hm → Prop} {i : Int} {s : Str} (h2 : okS s = true) (q : T false M) : eqW (.int i) (.str s) M T := ⟨rfl, h2, by rw [decide_eq_false (fun z => by cases z)]; exact q⟩
section
variable {C : CE} {nx bk ct : SU → Hm → Prop} {rt : QU} {M : Hm}
theorem judge_o1 {fu fs : Nat} {kp u : U} {n : Nat} (h : u = .non ∨ (∃ i, u = .int i) ∨ ∃ s, u = .str s) (hq : rt (.bl false) M) : wS C (B_judge_cut fu fs) ⟨nx, rt, bk, ct⟩ (startU 3 [.int n, kp, u]) M := by
  unfold B_judge_cut
  rcases h with rfl | ⟨i, rfl⟩ | ⟨s, rfl⟩
  · (repeat decreasing_trivial_pre_omega); exact hq
  · (repeat decreasing_trivial_pre_omega); exact hq
  · (repeat decreasing_trivial_pre_omega); exact hq
theorem judge_o2 {fu fs : Nat} {kp : U} {l : List U} {n : Nat} (h : l.length ≠ 2) (hq : rt (.bl false) M) : wS C (B_judge_cut fu fs) ⟨nx, rt, bk, ct⟩ (startU 3 [.int n, kp, .tup l]) M := by
  have h' : ¬ ((l.length : Nat) : Int) = 2 := by omega
  unfold B_judge_cut
  (repeat decreasing_trivial_pre_omega)
  exact hq
theorem judge_o3 {fu fs : Nat} {kp a b : U} {n : Nat} (h : b = .non ∨ (∃ i, b = .int i) ∨ ∃ s, b = .str s) (hq : rt (.bl false) M) : wS C (B_judge_cut fu fs) ⟨nx, rt, bk, ct⟩ (startU 3 [.int n, kp, .tup [a, b]]) M := by
  unfold B_judge_cut
  rcases h with rfl | ⟨i, rfl⟩ | ⟨s, rfl⟩
  · (repeat decreasing_trivial_pre_omega); exact hq
  · (repeat decreasing_trivial_pre_omega); exact hq
  · (repeat decreasing_trivial_pre_omega); exact hq
theorem judge_o4 {fu fs : Nat} {kp a : U} {l : List U} {n : Nat} (h : (∃ x, a = .tup x ∧ okU (.tup x) = true) ∨ (∃ i, a = .int i) ∨ a = .str "open") (hq : rt (.bl false) M) : wS C (B_judge_cut fu fs) ⟨nx, rt, bk, ct⟩ (startU 3 [.int n, kp, .tup [a, .tup l]]) M := by
  have o1 : okS "safe" = true := by decide +kernel
  have o2 : okS "unsafe" = true := by decide +kernel
  unfold B_judge_cut
  rcases h with ⟨x, rfl, hx⟩ | ⟨i, rfl⟩ | rfl
  · (repeat decreasing_trivial_pre_omega)
    refine eq_ts hx o1 ?_
    (repeat decreasing_trivial_pre_omega)
    refine eq_ts hx o2 ?_
    (repeat decreasing_trivial_pre_omega)
    exact hq
  · (repeat decreasing_trivial_pre_omega)
    refine eq_is o1 ?_
    (repeat decreasing_trivial_pre_omega)
    refine eq_is o2 ?_
    (repeat decreasing_trivial_pre_omega)
    exact hq
  · (repeat decreasing_trivial_pre_omega)
    exact hq
theorem law_walked_ok {fa fe : Nat} (hA : AfterC C fa) (hE : EffC C fe) {st : List Str} {cls : List Int} {row : List Sm} (hst : st.length ≤ 3) (hw : StW st) (hq : ∀ M', Sub M M' → rt (encS2 (row.foldl (smStep st) S0)) M') :
    wS C (B_law_walked fa fe) ⟨nx, rt, bk, ct⟩ (startU 4 [kpT st cls, encRow row]) M := by
  unfold B_law_walked kpT encRow
  (repeat decreasing_trivial_pre_omega)
  refine forL_by (enc := encSm) (fun don rest σ M' => ∃ u3, σ = [some (.tup [.tup (st.map U.str), .tup (cls.map U.int)]), some (.tup (row.map encSm)), some (encS2 (don.foldl (smStep st) S0)), u3] ∧ Sub M M') row ⟨none, rfl, Sub.refl _⟩ ?_ ?_
  · intro don sm rest σ M3 k e ⟨u5, e1, b1⟩ hk
    subst e1
    have hf : (don ++ [sm]).foldl (smStep st) S0 = smStep st (don.foldl (smStep st) S0) sm := by rw [List.foldl_append]; rfl
    (repeat decreasing_trivial_pre_omega)
    refine hE st sm hst hw M3 _ fun M4 s4 => ?_
    (repeat decreasing_trivial_pre_omega)
    refine hA _ (don.foldl (smStep st) S0) (eff st sm) _ ?_
    rw [← step_eff, ← hf]
    (repeat decreasing_trivial_pre_omega)
    exact hk _ _ trivial ⟨_, rfl, b1.trans s4⟩
  · intro σ M3 ⟨u5, e1, b1⟩
    subst e1
    (repeat decreasing_trivial_pre_omega)
    exact hq _ b1
theorem law_walkedL_ok {fa fe : Nat} (hA : AfterC C fa) (hE : EffC C fe) {st : List Str} {cls : List Int} {row : List Sm} {q : Addr} (hq0 : M q = some (.lst (row.map encSm))) (hst : st.length ≤ 3) (hw : StW st) (hq : ∀ M', Sub M M' → rt (encS2 (row.foldl (smStep st) S0)) M') :
    wS C (B_law_walked fa fe) ⟨nx, rt, bk, ct⟩ (startU 4 [kpT st cls, .ref q]) M := by
  unfold B_law_walked kpT
  (repeat decreasing_trivial_pre_omega)
  refine forL_by (enc := encSm) (fun don rest σ M' => ∃ u3, σ = [some (.tup [.tup (st.map U.str), .tup (cls.map U.int)]), some (.ref q), some (encS2 (don.foldl (smStep st) S0)), u3] ∧ Sub M M') row ⟨none, rfl, Sub.refl _⟩ ?_ ?_
  · intro don sm rest σ M3 k e ⟨u5, e1, b1⟩ hk
    subst e1
    have hf : (don ++ [sm]).foldl (smStep st) S0 = smStep st (don.foldl (smStep st) S0) sm := by rw [List.foldl_append]; rfl
    (repeat decreasing_trivial_pre_omega)
    refine hE st sm hst hw M3 _ fun M4 s4 => ?_
    (repeat decreasing_trivial_pre_omega)
    refine hA _ (don.foldl (smStep st) S0) (eff st sm) _ ?_
    rw [← step_eff, ← hf]
    (repeat decreasing_trivial_pre_omega)
    exact hk _ _ ((b1.trans s4) _ _ hq0) ⟨_, rfl, b1.trans s4⟩
  · intro σ M3 ⟨u5, e1, b1⟩
    subst e1
    (repeat decreasing_trivial_pre_omega)
    exact hq _ b1
def WalkedC (C : CE) (f : Nat) : Prop := ∀ (st : List Str) (cls : List Int) (row : List Sm), st.length ≤ 3 → StW st → Ret C f [kpT st cls, encRow row] (encS2 (row.foldl (smStep st) S0))
def WalkedL (C : CE) (f : Nat) : Prop := ∀ (M : Hm) (st : List Str) (cls : List Int) (row : List Sm) (q : Addr) (Q : QU), M q = some (.lst (row.map encSm)) → st.length ≤ 3 → StW st → (∀ M', Sub M M' → Q (encS2 (row.foldl (smStep st) S0)) M') → C f [kpT st cls, .ref q] M Q
theorem law_takes_u {fa fw fe fk : Nat} (hW : LWrongC C fw) (hK : WalkedC C fk) {n : Nat} {st : List Str} {cls : List Int} {row : List Sm} (ho : st ∈ ordersL) (hc : ClOk n cls) (hr : RowOk n row) (hq : ∀ M', Sub M M' → rt (.bl (wrongS cls (row.foldl (smStep st) S0))) M') :
    wS C (B_law_takes fa fw fe fk) ⟨nx, rt, bk, ct⟩ (startU 7 [.int n, kpT st cls, .tup [.str "unsafe", encRow row]]) M := by
  unfold B_law_takes kpT
  (repeat decreasing_trivial_pre_omega)
  refine hK st cls row (ord_len ho) (ordersW ho) M _ fun M1 s1 => ?_
  (repeat decreasing_trivial_pre_omega)
  exact hW M1 n cls _ _ hc (row_grid row S0 (S0_grid n) hr) (hq _ s1)
theorem law_takes_s {fa fw fe fk : Nat} (hA : AfterC C fa) (hW : LWrongC C fw) (hE : EffsC C fe) {n : Nat} {st : List Str} {cls : List Int} {X : List S2} (hn : n ≤ 4) (ho : st ∈ ordersL) (hc : ClOk n cls) (nd : X.Nodup) (hX : X.length ≤ 100) (hsm : ∀ x ∈ X, SmSt n x) (hq : ∀ b M', Sub M M' → (b = true ↔ JS n st cls X) → rt (.bl b) M') :
    wS C (B_law_takes fa fw fe fk) ⟨nx, rt, bk, ct⟩ (startU 7 [.int n, kpT st cls, .tup [.str "safe", .tup (X.map encS2)]]) M := by
  have hlim : LIM = 100000 := rfl
  unfold B_law_takes kpT
  (repeat decreasing_trivial_pre_omega)
  intro p hp0
  have p1 : (um M p (.dcn [])) p = some (.dcn (metU [])) := um_same
  have s1 : Sub M (um M p (.dcn [])) := sub_um (Sub.refl _) hp0
  generalize um M p (.dcn []) = M1 at *
  (repeat decreasing_trivial_pre_omega)
  refine forL_by (enc := encS2) (fun don rest σ M' => ∃ u4, σ = [some (.int n), some (.tup [.tup (st.map U.str), .tup (cls.map U.int)]), some (.tup [.str "safe", .tup (X.map encS2)]), some (.ref p), u4, none, none] ∧ M' p = some (.dcn (metU don)) ∧ Sub M M') X ⟨none, rfl, p1, s1⟩ ?_ ?_
  · intro don s rest σ M2 k e ⟨u4, e1, b1, b2⟩ hk
    subst e1
    have hsd : s ∉ don := fun z => by
      rw [← e, List.nodup_append] at nd
      exact nd.2.2 s z s (by simp) rfl
    have hdl : don.length ≤ 100 := by
      have : don.length ≤ X.length := by rw [← e]; simp
      omega
    (repeat decreasing_trivial_pre_omega)
    refine st_dcn b1 rfl (by rw [metU_len]; omega) ?_
    rw [metU_put hsd]
    (repeat decreasing_trivial_pre_omega)
    exact hk _ _ trivial ⟨_, rfl, um_same, sub_um b2 hp0⟩
  intro σ M2 ⟨u4, e1, b1, b2⟩
  subst e1
  (repeat decreasing_trivial_pre_omega)
  refine hE M2 n st _ hn ho fun e E M3 e0 s3 he hE2 _ => ?_
  have b3 := s3 _ _ b1
  have b4 := b2.trans s3
  (repeat decreasing_trivial_pre_omega)
  refine forL_by (enc := encS2) (fun don rest σ M' => ∃ u4 u6, σ = [some (.int n), some (.tup [.tup (st.map U.str), .tup (cls.map U.int)]), some (.tup [.str "safe", .tup (X.map encS2)]), some (.ref p), u4, some (.ref e), u6] ∧ M' p = some (.dcn (metU X)) ∧ M' e = some (.lst (E.map encEf)) ∧ Sub M M' ∧ (∀ x ∈ don, wrongS cls x = false) ∧ ∀ x ∈ don, ∀ sm ∈ smAll n st, smStep st x sm ∈ X) X ⟨_, _, rfl, b3, he, b4, (fun _ z => nomatch z), fun _ z => nomatch z⟩ ?_ ?_
  · intro don s rest σ M5 k eD ⟨u4, u6, e1, c1, c2, c3, c5, c4⟩ hk
    subst e1
    have hsX : s ∈ X := by rw [← eD]; simp
    (repeat decreasing_trivial_pre_omega)
    refine hW M5 n cls s _ hc (hsm s hsX).1 ?_
    cases hw : wrongS cls s with
    | true =>
      (repeat decreasing_trivial_pre_omega)
      exact hq false _ c3 ⟨fun z => (nomatch z), fun z => by have := z.2.1 s hsX; exact absurd (this.symm.trans hw) (by decide)⟩
    | false =>
      (repeat decreasing_trivial_pre_omega)
      refine forL_by (enc := encEf) (fun dn rs σ M' => ∃ u6, σ = [some (.int n), some (.tup [.tup (st.map U.str), .tup (cls.map U.int)]), some (.tup [.str "safe", .tup (X.map encS2)]), some (.ref p), some (encS2 s), some (.ref e), u6] ∧ M' p = some (.dcn (metU X)) ∧ M' e = some (.lst (E.map encEf)) ∧ Sub M M' ∧ ∀ x ∈ dn, aft s x ∈ X) E ⟨_, rfl, c1, c2, c3, fun _ z => nomatch z⟩ ?_ ?_
      · intro dn x rs σ M6 k2 e2 ⟨v6, e1, d1, d2, d3, d4⟩ hk2
        subst e1
        have hxE : x ∈ E := by rw [← e2]; simp
        (repeat decreasing_trivial_pre_omega)
        refine hA M6 s x _ ?_
        (repeat decreasing_trivial_pre_omega)
        refine nin_dcn d1 rfl ?_
        rw [metU_find]
        by_cases hx : aft s x ∈ X
        · rw [if_neg (by simpa using hx)]
          (repeat decreasing_trivial_pre_omega)
          refine hk2 _ _ d2 ⟨_, rfl, d1, d2, d3, fun y hy => ?_⟩
          rcases List.mem_append.mp hy with z | z
          · exact d4 y z
          · rw [List.mem_singleton.mp z]; exact hx
        · rw [if_pos (by simpa using hx)]
          (repeat decreasing_trivial_pre_omega)
          refine hq false _ d3 ⟨fun z => (nomatch z), fun z => ?_⟩
          obtain ⟨sm, hsm2, rfl⟩ := hE2.1 x hxE
          have := z.2.2 s hsX sm hsm2
          rw [step_eff] at this
          exact absurd this hx
      · intro σ M6 ⟨v6, e1, d1, d2, d3, d4⟩
        subst e1
        (repeat decreasing_trivial_pre_omega)
        refine hk _ _ trivial ⟨_, _, rfl, d1, d2, d3, fun x hx => ?_, fun x hx => ?_⟩
        · rcases List.mem_append.mp hx with z | z
          · exact c5 x z
          · rw [List.mem_singleton.mp z]; exact hw
        · rcases List.mem_append.mp hx with z | z
          · exact c4 x z
          · rw [List.mem_singleton.mp z]
            intro sm hsm2
            rw [step_eff]
            exact d4 _ (hE2.2 sm hsm2)
  · intro σ M5 ⟨u4, u6, e1, c1, c2, c3, c5, c4⟩
    subst e1
    (repeat decreasing_trivial_pre_omega)
    refine in_dcn c1 rfl ?_
    rw [show U.tup [.int (-3), .int (-3)] = encS2 S0 from rfl, metU_find]
    refine hq _ _ c3 ?_
    rw [decide_eq_true_eq]
    exact ⟨fun z => ⟨z, c5, c4⟩, fun z => z.1⟩
def TakesU (C : CE) (f : Nat) : Prop := ∀ (M : Hm) (n : Nat) (st : List Str) (cls : List Int) (row : List Sm) (Q : QU), st ∈ ordersL → ClOk n cls → RowOk n row → (∀ M', Sub M M' → Q (.bl (wrongS cls (row.foldl (smStep st) S0))) M') → C f [.int n, kpT st cls, .tup [.str "unsafe", encRow row]] M Q
def TakesS (C : CE) (f : Nat) : Prop := ∀ (M : Hm) (n : Nat) (st : List Str) (cls : List Int) (X : List S2) (Q : QU), n ≤ 4 → st ∈ ordersL → ClOk n cls → X.Nodup → X.length ≤ 100 → (∀ x ∈ X, SmSt n x) → (∀ b M', Sub M M' → (b = true ↔ JS n st cls X) → Q (.bl b) M') → C f [.int n, kpT st cls, .tup [.str "safe", .tup (X.map encS2)]] M Q
end
end Pl.Tq

set_option maxHeartbeats 1000000
/-! k80: papers that tell states -/
namespace Pl.Tq
open PySem L2 K79
def B_law_turned (law_draw : Nat) : S := (.seq (.asg 2 (.call law_draw (.cons (.var 0) (.cons (.blt .len (.cons (.var 1) .nil)) .nil)))) (.seq (.ret (.blt .tuple (.cons (.bin .add (.slice (.var 1) (.var 2) .nil) (.slice (.var 1) .nil (.var 2))) .nil))) .skip))
def B_law_states (law_turned : Nat) (law_reached : Nat) (law_pick : Nat) (law_draw : Nat) (law_effects : Nat) : S := (.seq (.asg 3 (.call law_effects (.cons (.var 1) (.cons (.var 2) .nil)))) (.seq (.asg 4 (.call law_reached (.cons (.lst (.cons (.tup (.cons (.neg (.int 3)) (.cons (.neg (.int 3)) .nil))) .nil)) (.cons (.var 3) .nil)))) (.seq (.asg 5 (.lst (.cons (.tup (.cons (.neg (.int 3)) (.cons (.neg (.int 3)) .nil))) .nil))) (.seq (.for_ (.one 6) (.iRange (.bin .add (.int 1) (.call law_draw (.cons (.var 0) (.cons (.int 2) .nil))))) (.seq (.asg 7 (.tup (.cons (.bin .sub (.call law_draw (.cons (.var 0) (.cons (.bin .add (.var 1) (.int 3)) .nil))) (.int 3)) (.cons (.call law_pick (.cons (.var 0) (.cons (.bin .add (.lst (.cons (.neg (.int 3)) (.cons (.neg (.int 2)) .nil))) (.lrng false .nil (.var 1))) .nil))) .nil)))) (.seq (.ifs (.cmp .notin (.var 7) (.var 5)) (.seq (.expr (.mth .append (.var 5) (.cons (.var 7) .nil))) .skip) .skip) .skip))) (.seq (.asg 8 (.comp [("state", 7)] (.one 7) (.iSeq (.var 4)) (.cmp .ne (.ix (.var 7) (.int 1)) (.neg (.int 3))) (.var 7))) (.seq (.asg 9 (.call law_pick (.cons (.var 0) (.cons (.comp [("state", 7)] (.one 7) (.iSeq (.var 4)) (.cmp .ne (.var 7) (.tup (.cons (.neg (.int 3)) (.cons (.neg (.int 3)) .nil)))) (.var 7)) .nil)))) (.seq (.ret (.lst (.cons (.tup (.cons (.str "safe") (.cons (.call law_turned (.cons (.var 0) (.cons (.var 4) .nil))) .nil))) (.cons (.tup (.cons (.str "safe") (.cons (.call law_turned (.cons (.var 0) (.cons (.call law_reached (.cons (.var 5) (.cons (.var 3) .nil))) .nil))) .nil))) (.cons (.tup (.cons (.str "safe") (.cons (.call law_turned (.cons (.var 0) (.cons (.call law_reached (.cons (.lst (.cons (.call law_pick (.cons (.var 0) (.cons (.var 8) .nil))) .nil)) (.cons (.var 3) .nil))) .nil))) .nil))) (.cons (.tup (.cons (.str "safe") (.cons (.blt .tuple (.cons (.comp [("state", 7)] (.one 7) (.iSeq (.var 4)) (.cmp .ne (.var 7) (.var 9)) (.var 7)) .nil)) .nil))) (.cons (.tup (.cons (.str "safe") (.cons (.tup (.cons (.tup (.cons (.neg (.int 3)) (.cons (.neg (.int 3)) .nil))) .nil)) .nil))) (.cons (.tup (.cons (.str "safe") (.cons (.tup .nil) .nil))) .nil)))))))) .skip)))))))
theorem eff_no1 {n : Nat} {st : List Str} (hn : n ≤ 4) (ho : st ∈ ordersL) {sm : Sm} (h : sm ∈ smAll n st) : (eff st sm).2 ≠ some (-1) := by
  have key : ∀ st ∈ ordersL, ∀ c ∈ conts 4, ∀ k ∈ smCuts (smW st c).length, (eff st (c, k)).2 ≠ some (-1) := by decide +kernel
  obtain ⟨c, k⟩ := sm
  obtain ⟨h1, h2⟩ := smAll_mem.mp h
  exact key st ho c (conts_mem.mpr ⟨h1.1, by dsimp only at h1; omega⟩) k (smCuts_mem.mpr h2)
theorem step_SmSt {n : Nat} {st : List Str} (hn : n ≤ 4) (ho : st ∈ ordersL) {s : S2} {sm : Sm} (hs : SmSt n s) (h : sm ∈ smAll n st) : SmSt n (smStep st s sm) := by
  refine ⟨step_grid hs.1 h, ?_⟩
  have := eff_no1 hn ho h
  rw [step_eff]
  unfold aft
  cases e : (eff st sm).2 with
  | none => exact hs.2
  | some c =>
    rw [e] at this
    intro z
    exact this (congrArg some z)
theorem rchE_SmSt {n : Nat} {st : List Str} {E : List Ef} {S : List S2} (hn : n ≤ 4) (ho : st ∈ ordersL) (hE : EfOf n st E) (hS : ∀ s ∈ S, SmSt n s) {s : S2} (h : RchE E S s) : SmSt n s := by
  induction h with
  | start h => exact hS _ h
  | step _ he ih =>
    obtain ⟨sm, hsm, rfl⟩ := hE.1 _ he
    rw [← step_eff]
    exact step_SmSt hn ho ih hsm
theorem S0_SmSt (n : Nat) : SmSt n S0 := ⟨S0_grid n, by decide⟩
theorem rch_SmSt {n : Nat} {st : List Str} (hn : n ≤ 4) (ho : st ∈ ordersL) {s : S2} (h : RchS n st s) : SmSt n s := by
  induction h with
  | start => exact S0_SmSt n
  | step _ hm ih => exact step_SmSt hn ho ih hm
/-- a right paper of states -/
def PapS (n : Nat) (u : U) : Prop := ∃ X : List S2, X.Nodup ∧ X.length ≤ 100 ∧ (∀ x ∈ X, SmSt n x) ∧ u = .tup [.str "safe", .tup (X.map encS2)]
section
variable {C : CE} {nx bk ct : SU → Hm → Prop} {rt : QU} {M : Hm}
theorem law_turned_ok {fd : Nat} (hD : DrawC C fd) {p : Addr × Addr} {q : Addr} {X : List S2} (d : Dr M p) (hq0 : M q = some (.lst (X.map encS2))) (hX : X ≠ []) (hl : X.length ≤ 100) (n1 : q ≠ p.1) (hq : ∀ (X' : List S2) M', X'.Perm X → Dr M' p → Fr p M M' → rt (.tup (X'.map encS2)) M') :
    wS C (B_law_turned fd) ⟨nx, rt, bk, ct⟩ (startU 3 [.ref p.1, .ref q]) M := by
  have hlim : LIM = 100000 := rfl
  have hpos := List.length_pos_iff.mpr hX
  unfold B_law_turned
  (repeat decreasing_trivial_pre_omega)
  rw [List.length_map]
  refine hD.lt _ p X.length _ d hpos (by omega) fun k M1 hk d1 fr1 => ?_
  have q1 := fr1.at_ n1 hq0
  (repeat decreasing_trivial_pre_omega)
  intro a ha
  have hqa : q ≠ a := ne_of_old q1 ha
  rw [cutU_from, ← List.map_drop]
  have q2 := um_old (o := .lst ((X.drop k).map encS2)) q1 ha
  have a2 : (um M1 a (.lst ((X.drop k).map encS2))) a = some (.lst ((X.drop k).map encS2)) := um_same
  have d2 := d1.upd (o := .lst ((X.drop k).map encS2)) ha
  have f2 : Fr p M (um M1 a (.lst ((X.drop k).map encS2))) := fr1.trans ((Sub.refl _ |> fun s => sub_new s ha).fr)
  generalize um M1 a (.lst ((X.drop k).map encS2)) = M2 at *
  (repeat decreasing_trivial_pre_omega)
  intro b hb
  rw [cutU_take, ← List.map_take]
  have a3 := um_old (o := .lst ((X.take k).map encS2)) a2 hb
  have b3 : (um M2 b (.lst ((X.take k).map encS2))) b = some (.lst ((X.take k).map encS2)) := um_same
  have d3 := d2.upd (o := .lst ((X.take k).map encS2)) hb
  have f3 : Fr p M (um M2 b (.lst ((X.take k).map encS2))) := f2.trans ((sub_new (Sub.refl _) hb).fr)
  generalize um M2 b (.lst ((X.take k).map encS2)) = M3 at *
  (repeat decreasing_trivial_pre_omega)
  refine o_addL a3 b3 (by rw [List.length_map, List.length_map, List.length_drop, List.length_take]; omega) ?_
  intro c hc
  (repeat decreasing_trivial_pre_omega)
  rw [← List.map_append]
  exact hq _ _ (List.perm_append_comm.trans (by rw [List.take_append_drop])) (d3.upd hc) (f3.trans ((sub_new (Sub.refl _) hc).fr))
def TurnedC (C : CE) (f : Nat) : Prop := ∀ (M : Hm) (p : Addr × Addr) (q : Addr) (X : List S2) (Q : QU), Dr M p → M q = some (.lst (X.map encS2)) → X ≠ [] → X.length ≤ 100 → q ≠ p.1 → (∀ (X' : List S2) M', X'.Perm X → Dr M' p → Fr p M M' → Q (.tup (X'.map encS2)) M') → C f [.ref p.1, .ref q] M Q
structure StF (p : Addr × Addr) (e r q : Addr) (E : List Ef) (R S : List S2) (M : Hm) : Prop where
  dr : Dr M p
  ee : M e = some (.lst (E.map encEf))
  rr : M r = some (.lst (R.map encS2))
  qq : M q = some (.lst (S.map encS2))
theorem StF.move {p : Addr × Addr} {e r q : Addr} {E : List Ef} {R S : List S2} {M M' : Hm} (h : StF p e r q E R S M) (n1 : e ≠ p.1) (n2 : r ≠ p.1) (n3 : q ≠ p.1) (d : Dr M' p) (f : Fr p M M') : StF p e r q E R S M' := ⟨d, f.at_ n1 h.ee, f.at_ n2 h.rr, f.at_ n3 h.qq⟩
theorem StF.sub {p : Addr × Addr} {e r q : Addr} {E : List Ef} {R S : List S2} {M M' : Hm} (h : StF p e r q E R S M) (s : Sub M M') : StF p e r q E R S M' := ⟨h.dr.sub s, s _ _ h.ee, s _ _ h.rr, s _ _ h.qq⟩
theorem enc_ne {s t : S2} : decide (encS2 s = encS2 t) = decide (s = t) := decide_eq_decide.mpr ⟨encS2_inj s t, fun h => by rw [h]⟩
theorem Fr.none {p : Addr × Addr} {A B : Hm} {a : Addr} (f : Fr p A B) (d : Dr B p) (h : B a = none) : A a = none := by
  cases e : A a with
  | none => rfl
  | some o => rw [f a (d.ne h) o e] at h; cases h
theorem law_states_ok {ft fr fp fd fe : Nat} (hT : TurnedC C ft) (hR : ReachC C fr) (hP : PickC C fp) (hD : DrawC C fd) (hE : EffsC C fe) {p : Addr × Addr} {n : Nat} {st : List Str} (d : Dr M p) (hn1 : 0 < n) (hn : n ≤ 4) (ho : st ∈ ordersL)
    (hq : ∀ a us M', M a = none → Dr M' p → Fr p M M' → M' a = some (.lst us) → us.length = 6 → (∀ u ∈ us, PapS n u) → rt (.ref a) M') : wS C (B_law_states ft fr fp fd fe) ⟨nx, rt, bk, ct⟩ (startU 10 [.ref p.1, .int n, stT st]) M := by
  have hlim : LIM = 100000 := rfl
  unfold B_law_states
  (repeat decreasing_trivial_pre_omega)
  refine hE M n st _ hn ho fun e E M1 e0 s1 he hE2 _ => ?_
  (repeat decreasing_trivial_pre_omega)
  intro q0 hq00
  have q1 : (um M1 q0 (.lst [.tup [.int (-3), .int (-3)]])) q0 = some (.lst ([S0].map encS2)) := um_same
  have e1 := um_old (o := .lst [.tup [.int (-3), .int (-3)]]) he hq00
  have s2 : Sub M (um M1 q0 (.lst [.tup [.int (-3), .int (-3)]])) := sub_new s1 hq00
  generalize um M1 q0 (.lst [.tup [.int (-3), .int (-3)]]) = M2 at *
  (repeat decreasing_trivial_pre_omega)
  refine hR M2 E [S0] (gridL n) q0 e _ q1 e1 (by simp) (fun s hs => grid_mem (rch_grid ((rchE_iff hE2 s).mp hs))) (grid_le hn) fun r R M3 r0 s3 hr nd hRm _ => ?_
  have hRc : ∀ s, s ∈ R ↔ RchS n st s := fun s => (hRm s).trans (rchE_iff hE2 s)
  have hRl : R.length ≤ 49 := rch_len hn nd fun s hs => (hRc s).mp hs
  have e3 := s3 _ _ e1
  have s4 := s2.trans s3
  (repeat decreasing_trivial_pre_omega)
  intro q hq0
  have F4 : StF p e r q E R [S0] (um M3 q (.lst [.tup [.int (-3), .int (-3)]])) := ⟨(d.sub s4).upd hq0, um_old e3 hq0, um_old hr hq0, um_same⟩
  have ne : e ≠ p.1 := d.ne e0
  have nr : r ≠ p.1 := (d.sub s2).ne r0
  have nq : q ≠ p.1 := (d.sub s4).ne hq0
  have nq2 : q ≠ p.2 := (d.sub s4).ne2 hq0
  have hrq : r ≠ q := ne_of_old hr hq0
  have heq : e ≠ q := ne_of_old e3 hq0
  have f4 : Fr p M (um M3 q (.lst [.tup [.int (-3), .int (-3)]])) := (sub_new s4 hq0).fr
  have hqM : M q = none := sub_none s4 hq0
  generalize um M3 q (.lst [.tup [.int (-3), .int (-3)]]) = M4 at *
  (repeat decreasing_trivial_pre_omega)
  refine hD.lt _ p 2 _ F4.dr (by decide) (by decide) fun k2 M5 hk2 d5 fr5 => ?_
  have F5 := F4.move ne nr nq d5 fr5
  have f5 := f4.trans fr5
  (repeat decreasing_trivial_pre_omega)
  refine ⟨by omega, by omega, ?_⟩
  rw [show (1 : Int) + (k2 : Int) = ((1 + k2 : Nat) : Int) by omega]
  refine forL_nat (fun i σ M' => ∃ u6 u7 S, σ = [some (.ref p.1), some (.int n), some (stT st), some (.ref e), some (.ref r), some (.ref q), u6, u7, none, none] ∧ StF p e r q E R S M' ∧ Fr p M M' ∧ S.Nodup ∧ S.length ≤ i + 1 ∧ (∀ s ∈ S, SmSt n s) ∧ S ≠ []) (1 + k2) ⟨_, _, [S0], rfl, F5, f5, by simp, by simp, (fun s hs => by rw [List.mem_singleton.mp hs]; exact S0_SmSt n), by simp⟩ ?_ ?_
  · intro i σ M6 k hi ⟨u6, u7, S, e1, F6, f6, nd6, l6, o6, z6⟩ hk
    subst e1
    (repeat decreasing_trivial_pre_omega)
    rw [show ((n : Nat) : Int) + 3 = ((n + 3 : Nat) : Int) by omega]
    refine hD.lt _ p (n + 3) _ F6.dr (by omega) (by omega) fun x M7 hx d7 fr7 => ?_
    have F7 := F6.move ne nr nq d7 fr7
    have f7 := f6.trans fr7
    (repeat decreasing_trivial_pre_omega)
    intro a ha
    have F8 := F7.sub (sub_new (o := .lst [.int (-3), .int (-2)]) (Sub.refl _) ha)
    have a8 : (um M7 a (.lst [.int (-3), .int (-2)])) a = some (.lst [.int (-3), .int (-2)]) := um_same
    have f8 := f7.trans (sub_new (o := .lst [.int (-3), .int (-2)]) (Sub.refl _) ha).fr
    generalize um M7 a (.lst [.int (-3), .int (-2)]) = M8 at *
    (repeat decreasing_trivial_pre_omega)
    refine ⟨by omega, by omega, fun b hb => ?_⟩
    have F9 := F8.sub (sub_new (o := .lst (rngU 0 n)) (Sub.refl _) hb)
    have a9 := um_old (o := .lst (rngU 0 n)) a8 hb
    have b9 : (um M8 b (.lst (rngU 0 n))) b = some (.lst (rngU 0 n)) := um_same
    have f9 := f8.trans (sub_new (o := .lst (rngU 0 n)) (Sub.refl _) hb).fr
    generalize um M8 b (.lst (rngU 0 n)) = M9 at *
    (repeat decreasing_trivial_pre_omega)
    have rl : (rngU 0 (n : Int)).length = n := by rw [rngU_nat]; simp
    refine o_addL a9 b9 (by rw [rl]; simp; omega) fun c hc => ?_
    have F10 := F9.sub (sub_new (o := .lst ([.int (-3), .int (-2)] ++ rngU 0 n)) (Sub.refl _) hc)
    have c10 : (um M9 c (.lst ([.int (-3), .int (-2)] ++ rngU 0 n))) c = some (.lst ([.int (-3), .int (-2)] ++ rngU 0 n)) := um_same
    have f10 := f9.trans (sub_new (o := .lst ([.int (-3), .int (-2)] ++ rngU 0 n)) (Sub.refl _) hc).fr
    have nc := F9.dr.ne hc
    generalize um M9 c (.lst ([.int (-3), .int (-2)] ++ rngU 0 n)) = M10 at *
    (repeat decreasing_trivial_pre_omega)
    refine hP M10 p (.ref c) _ _ F10.dr (.inr ⟨c, rfl, nc, c10⟩) (by simp) (by rw [List.length_append, rl]; simp; omega) fun y M11 hy d11 fr11 => ?_
    have F11 := F10.move ne nr nq d11 fr11
    have f11 := f10.trans fr11
    obtain ⟨yi, rfl, hy1, hy2, hy3⟩ : ∃ i : Int, y = .int i ∧ -3 ≤ i ∧ i < n ∧ i ≠ -1 := by
      rcases List.mem_append.mp hy with z | z
      · simp only [List.mem_cons, List.not_mem_nil, or_false] at z
        rcases z with rfl | rfl
        · exact ⟨-3, rfl, by decide, by omega, by decide⟩
        · exact ⟨-2, rfl, by decide, by omega, by decide⟩
      · rw [rngU_nat] at z
        obtain ⟨j, hj, rfl⟩ := List.mem_map.mp z
        have hj := List.mem_range.mp hj
        exact ⟨(j : Nat), rfl, by omega, by omega, by omega⟩
    have okS' : okL (S.map encS2) = true := List.all_eq_true.mpr fun x hx => by
      obtain ⟨s, _, rfl⟩ := List.mem_map.mp hx
      rfl
    have hst' : SmSt n ((x : Int) - 3, yi) := ⟨⟨⟨by dsimp only; omega, by dsimp only; omega⟩, hy1, hy2⟩, hy3⟩
    have em : U.tup [.int ((x : Int) - 3), .int yi] ∈ S.map encS2 ↔ ((x : Int) - 3, yi) ∈ S := by
      rw [List.mem_map]
      exact ⟨fun ⟨t, ht, et⟩ => by rw [← encS2_inj t ((x : Int) - 3, yi) et]; exact ht, fun h => ⟨_, h, rfl⟩⟩
    have qq11 := F11.qq
    (repeat decreasing_trivial_pre_omega)
    refine nin_lst qq11 rfl okS' ?_
    by_cases hm : ((x : Int) - 3, yi) ∈ S
    · rw [decide_eq_true (em.mpr hm)]
      (repeat decreasing_trivial_pre_omega)
      exact hk _ _ trivial ⟨_, _, S, rfl, F11, f11, nd6, by omega, o6, z6⟩
    · rw [decide_eq_false (fun z => hm (em.mp z))]
      (repeat decreasing_trivial_pre_omega)
      refine m_app qq11 (by rw [List.length_map]; omega) ?_
      (repeat decreasing_trivial_pre_omega)
      refine hk _ _ trivial ⟨_, _, S ++ [((x : Int) - 3, yi)], rfl, ⟨F11.dr.upd2 nq nq2, um_oth heq F11.ee, um_oth hrq F11.rr, by rw [um_same, List.map_append]; rfl⟩, f11.upd hqM, ?_, by simp; omega, fun s hs => ?_, by simp⟩
      · rw [List.nodup_append]
        exact ⟨nd6, by simp, fun t ht w hw z => hm (by rw [List.mem_singleton.mp hw] at z; rw [← z]; exact ht)⟩
      · rcases List.mem_append.mp hs with z | z
        · exact o6 s z
        · rw [List.mem_singleton.mp z]; exact hst'
  intro σ M6 ⟨u6, u7, S, e1, F6, f6, nd6, l6, o6, z6⟩
  subst e1
  have rr6 := F6.rr
  (repeat decreasing_trivial_pre_omega)
  refine compL_by (enc := encS2) (fun don rest acc M' => M' = M6 ∧ acc = (don.filter fun s => !decide (s.2 = -3)).map encS2) R ⟨rfl, rfl⟩ ?_ ?_
  · intro don x rest acc M7 k e' ⟨e1, e2⟩ hk
    subst e1 e2
    have hdl : (don.filter fun s => !decide (s.2 = -3)).length ≤ 100 := by
      have h1 := List.length_filter_le (fun s : S2 => !decide (s.2 = -3)) don
      have h2 : don.length ≤ R.length := by rw [← e']; simp
      omega
    obtain ⟨a, b⟩ := x
    unfold encS2
    dsimp only
    (repeat decreasing_trivial_pre_omega)
    by_cases hb : b = -3
    · (repeat decreasing_trivial_pre_omega)
      refine hk _ _ rr6 (fun z => by cases z) ⟨rfl, ?_⟩
      rw [List.filter_append]
      simp [hb]
    · (repeat decreasing_trivial_pre_omega)
      refine hk _ _ rr6 (fun _ => by rw [List.length_map]; omega) ⟨rfl, ?_⟩
      rw [List.filter_append]
      simp [hb]
      rfl
  intro acc M7 ⟨e1, e2⟩
  subst e1 e2
  have hz : RchS n st (smStep st S0 (0, none)) := .step .start (smAll_mem.mpr ⟨by dsimp only; omega, .inl rfl⟩)
  have hz2 : (smStep st S0 (0, none)).2 = 0 := small_whole ho (by decide) S0
  have hBm : ∀ s, s ∈ R.filter (fun s => !decide (s.2 = -3)) ↔ RchS n st s ∧ s.2 ≠ -3 := fun s => by rw [List.mem_filter, hRc]; simp
  have hB0 : R.filter (fun s => !decide (s.2 = -3)) ≠ [] := fun z => by
    have := (hBm _).mpr ⟨hz, by rw [hz2]; decide⟩
    rw [z] at this
    cases this
  have hBl : (R.filter (fun s => !decide (s.2 = -3))).length ≤ 49 := Nat.le_trans (List.length_filter_le _ _) hRl
  generalize R.filter (fun s => !decide (s.2 = -3)) = B at *
  intro b hb
  have F7 := F6.sub (sub_new (o := .lst (B.map encS2)) (Sub.refl _) hb)
  have b7 : (um M7 b (.lst (B.map encS2))) b = some (.lst (B.map encS2)) := um_same
  have f7 := f6.trans (sub_new (o := .lst (B.map encS2)) (Sub.refl _) hb).fr
  have nb := F6.dr.ne hb
  generalize um M7 b (.lst (B.map encS2)) = M8 at *
  have rr7 := F7.rr
  (repeat decreasing_trivial_pre_omega)
  refine compL_by (enc := encS2) (fun don rest acc M' => M' = M8 ∧ acc = (don.filter fun s => !decide (s = S0)).map encS2) R ⟨rfl, rfl⟩ ?_ ?_
  · intro don x rest acc M9 k e' ⟨e1, e2⟩ hk
    subst e1 e2
    have hdl : (don.filter fun s => !decide (s = S0)).length ≤ 100 := by
      have h1 := List.length_filter_le (fun s : S2 => !decide (s = S0)) don
      have h2 : don.length ≤ R.length := by rw [← e']; simp
      omega
    (repeat decreasing_trivial_pre_omega)
    refine eq_tup (a := [.int x.1, .int x.2]) rfl rfl ?_
    rw [show decide (U.tup [.int x.1, .int x.2] = U.tup [.int (-3), .int (-3)]) = decide (x = S0) from enc_ne (s := x) (t := S0)]
    by_cases hx : x = S0
    · rw [decide_eq_true hx]
      (repeat decreasing_trivial_pre_omega)
      refine hk _ _ rr7 (fun z => by cases z) ⟨rfl, ?_⟩
      rw [List.filter_append]
      simp [hx]
    · rw [decide_eq_false hx]
      (repeat decreasing_trivial_pre_omega)
      refine hk _ _ rr7 (fun _ => by rw [List.length_map]; omega) ⟨rfl, ?_⟩
      rw [List.filter_append]
      simp [hx]
  intro acc M9 ⟨e1, e2⟩
  subst e1 e2
  have hNm : ∀ s, s ∈ R.filter (fun s => !decide (s = S0)) ↔ RchS n st s ∧ s ≠ S0 := fun s => by rw [List.mem_filter, hRc]; simp
  have hN0 : R.filter (fun s => !decide (s = S0)) ≠ [] := fun z => by
    have := (hNm (smStep st S0 (0, none))).mpr ⟨hz, fun w => by rw [w] at hz2; exact absurd hz2 (by decide)⟩
    rw [z] at this
    cases this
  have hNl : (R.filter (fun s => !decide (s = S0))).length ≤ 49 := Nat.le_trans (List.length_filter_le _ _) hRl
  generalize R.filter (fun s => !decide (s = S0)) = N at *
  intro c hc
  have F9 := F7.sub (sub_new (o := .lst (N.map encS2)) (Sub.refl _) hc)
  have b9 := um_old (o := .lst (N.map encS2)) b7 hc
  have c9 : (um M9 c (.lst (N.map encS2))) c = some (.lst (N.map encS2)) := um_same
  have f9 := f7.trans (sub_new (o := .lst (N.map encS2)) (Sub.refl _) hc).fr
  have nc := F7.dr.ne hc
  generalize um M9 c (.lst (N.map encS2)) = M10 at *
  (repeat decreasing_trivial_pre_omega)
  refine hP M10 p (.ref c) (N.map encS2) _ F9.dr (.inr ⟨c, rfl, nc, c9⟩) (by simpa using hN0) (by rw [List.length_map]; omega) fun y M11 hy d11 fr11 => ?_
  obtain ⟨g, hg, rfl⟩ := List.mem_map.mp hy
  have F11 := F9.move ne nr nq d11 fr11
  have b11 := fr11.at_ nb b9
  have f11 := f9.trans fr11
  clear F9 F7 F6 F5 F4 b9 c9 b7 rr7 rr6 f9 f7 f6 f5 f4
  (repeat decreasing_trivial_pre_omega)
  refine hT M11 p r R _ F11.dr F11.rr (fun z => by have := (hRc S0).mpr .start; rw [z] at this; cases this) (by omega) nr fun X1 M12 hX1 d12 fr12 => ?_
  have F12 := F11.move ne nr nq d12 fr12
  have b12 := fr12.at_ nb b11
  have f12 := f11.trans fr12
  (repeat decreasing_trivial_pre_omega)
  have hS1 : ∀ s, RchE E S s → SmSt n s := fun s hs => rchE_SmSt hn ho hE2 o6 hs
  refine hR M12 E S (gridL n) q e _ F12.qq F12.ee nd6 (fun s hs => grid_mem (hS1 s hs).1) (grid_le hn) fun t T M13 t0 s13 ht ndT hT2 _ => ?_
  have F13 := F12.sub s13
  have b13 := s13 _ _ b12
  have f13 := f12.trans s13.fr
  have nt : t ≠ p.1 := F12.dr.ne t0
  have hTl : T.length ≤ 98 := Nat.le_trans (nd_len' ndT fun s hs => grid_mem (hS1 s ((hT2 s).mp hs)).1) (grid_le hn)
  have hT0 : T ≠ [] := fun z => by
    cases S with
    | nil => exact z6 rfl
    | cons s S => have := (hT2 s).mpr (.start List.mem_cons_self); rw [z] at this; cases this
  (repeat decreasing_trivial_pre_omega)
  refine hT M13 p t T _ F13.dr ht hT0 (by omega) nt fun X2 M14 hX2 d14 fr14 => ?_
  have F14 := F13.move ne nr nq d14 fr14
  have b14 := fr14.at_ nb b13
  have f14 := f13.trans fr14
  (repeat decreasing_trivial_pre_omega)
  refine hP M14 p (.ref b) (B.map encS2) _ F14.dr (.inr ⟨b, rfl, nb, b14⟩) (by simpa using hB0) (by rw [List.length_map]; omega) fun y M15 hy d15 fr15 => ?_
  obtain ⟨w, hw, rfl⟩ := List.mem_map.mp hy
  have hwS : SmSt n w := rch_SmSt hn ho ((hBm w).mp hw).1
  have F15 := F14.move ne nr nq d15 fr15
  have f15 := f14.trans fr15
  (repeat decreasing_trivial_pre_omega)
  intro v hv
  have F16 := F15.sub (sub_new (o := .lst [encS2 w]) (Sub.refl _) hv)
  have v16 : (um M15 v (.lst [encS2 w])) v = some (.lst ([w].map encS2)) := um_same
  have f16 := f15.trans (sub_new (o := .lst [encS2 w]) (Sub.refl _) hv).fr
  generalize um M15 v (.lst [encS2 w]) = M16 at *
  (repeat decreasing_trivial_pre_omega)
  have hW1 : ∀ s, RchE E [w] s → SmSt n s := fun s hs => rchE_SmSt hn ho hE2 (fun s hs => by rw [List.mem_singleton.mp hs]; exact hwS) hs
  refine hR M16 E [w] (gridL n) v e _ v16 F16.ee (by simp) (fun s hs => grid_mem (hW1 s hs).1) (grid_le hn) fun t' T' M17 t0' s17 ht' ndT' hT2' _ => ?_
  have F17 := F16.sub s17
  have f17 := f16.trans s17.fr
  have nt' : t' ≠ p.1 := F16.dr.ne t0'
  have hTl' : T'.length ≤ 98 := Nat.le_trans (nd_len' ndT' fun s hs => grid_mem (hW1 s ((hT2' s).mp hs)).1) (grid_le hn)
  have hT0' : T' ≠ [] := fun z => by have := (hT2' w).mpr (.start (by simp)); rw [z] at this; cases this
  (repeat decreasing_trivial_pre_omega)
  refine hT M17 p t' T' _ F17.dr ht' hT0' (by omega) nt' fun X3 M18 hX3 d18 fr18 => ?_
  have F18 := F17.move ne nr nq d18 fr18
  have f18 := f17.trans fr18
  have rr18 := F18.rr
  (repeat decreasing_trivial_pre_omega)
  refine compL_by (enc := encS2) (fun don rest acc M' => M' = M18 ∧ acc = (don.filter fun s => !decide (s = g)).map encS2) R ⟨rfl, rfl⟩ ?_ ?_
  · intro don x rest acc M9 k e' ⟨e1, e2⟩ hk
    subst e1 e2
    have hdl : (don.filter fun s => !decide (s = g)).length ≤ 100 := by
      have h1 := List.length_filter_le (fun s : S2 => !decide (s = g)) don
      have h2 : don.length ≤ R.length := by rw [← e']; simp
      omega
    (repeat decreasing_trivial_pre_omega)
    refine eq_tup (a := [.int x.1, .int x.2]) (b := [.int g.1, .int g.2]) rfl rfl ?_
    rw [show decide (U.tup [.int x.1, .int x.2] = U.tup [.int g.1, .int g.2]) = decide (x = g) from enc_ne (s := x) (t := g)]
    by_cases hx : x = g
    · rw [decide_eq_true hx]
      (repeat decreasing_trivial_pre_omega)
      refine hk _ _ rr18 (fun z => by cases z) ⟨rfl, ?_⟩
      rw [List.filter_append]
      simp [hx]
    · rw [decide_eq_false hx]
      (repeat decreasing_trivial_pre_omega)
      refine hk _ _ rr18 (fun _ => by rw [List.length_map]; omega) ⟨rfl, ?_⟩
      rw [List.filter_append]
      simp [hx]
  intro acc M19 ⟨e1, e2⟩
  subst e1 e2
  intro l hl
  have F20 := F18.sub (sub_new (o := .lst ((R.filter fun s => !decide (s = g)).map encS2)) (Sub.refl _) hl)
  have l20 : (um M19 l (.lst ((R.filter fun s => !decide (s = g)).map encS2))) l = some (.lst ((R.filter fun s => !decide (s = g)).map encS2)) := um_same
  have f20 := f18.trans (sub_new (o := .lst ((R.filter fun s => !decide (s = g)).map encS2)) (Sub.refl _) hl).fr
  generalize um M19 l (.lst ((R.filter fun s => !decide (s = g)).map encS2)) = M20 at *
  (repeat decreasing_trivial_pre_omega)
  refine fun z hz => ?_
  have perm : ∀ {X Y : List S2}, X.Perm Y → Y.Nodup → Y.length ≤ 98 → (∀ s ∈ Y, SmSt n s) → PapS n (.tup [.str "safe", .tup (X.map encS2)]) := fun hp h1 h2 h3 => ⟨_, hp.nodup_iff.mpr h1, by rw [hp.length_eq]; omega, fun x hx => h3 x (hp.mem_iff.mp hx), rfl⟩
  refine hq z _ _ (Fr.none f20 F20.dr hz) (F20.dr.upd hz) (f20.trans (sub_new (Sub.refl _) hz).fr) um_same rfl fun u hu => ?_
  simp only [List.mem_cons, List.not_mem_nil, or_false] at hu
  rcases hu with rfl | rfl | rfl | rfl | rfl | rfl
  · exact perm hX1 nd (by omega) fun s hs => rch_SmSt hn ho ((hRc s).mp hs)
  · exact perm hX2 ndT hTl fun s hs => hS1 s ((hT2 s).mp hs)
  · exact perm hX3 ndT' hTl' fun s hs => hW1 s ((hT2' s).mp hs)
  · exact ⟨_, nd.filter _, Nat.le_trans (List.length_filter_le _ _) (by omega), fun x hx => rch_SmSt hn ho ((hRc x).mp (List.mem_filter.mp hx).1), rfl⟩
  · exact ⟨[S0], by simp, by simp, fun x hx => by rw [List.mem_singleton.mp hx]; exact S0_SmSt n, rfl⟩
  · exact ⟨[], by simp, by simp, fun x hx => (nomatch hx), rfl⟩
def StatesC (C : CE) (f : Nat) : Prop := ∀ (M : Hm) (p : Addr × Addr) (n : Nat) (st : List Str) (Q : QU), Dr M p → 0 < n → n ≤ 4 → st ∈ ordersL → (∀ a us M', M a = none → Dr M' p → Fr p M M' → M' a = some (.lst us) → us.length = 6 → (∀ u ∈ us, PapS n u) → Q (.ref a) M') → C f [.ref p.1, .int n, stT st] M Q
end
end Pl.Tq

set_option maxHeartbeats 1000000
/-! k80: papers that tell rows -/
namespace Pl.Tq
open PySem L2 K79
def B_law_rows (law_pick : Nat) (law_row_from : Nat) (law_walked : Nat) (law_draw : Nat) : S := (.seq (.asg 4 (.lst .nil)) (.seq (.for_ (.one 5) (.iRange (.call law_draw (.cons (.var 0) (.cons (.int 5) .nil)))) (.seq (.asg 6 (.bin .sub (.call law_draw (.cons (.var 0) (.cons (.bin .add (.var 1) (.int 1)) .nil))) (.int 1))) (.seq (.asg 7 (.tup (.cons (.call law_draw (.cons (.var 0) (.cons (.int 6) .nil))) (.cons (.cmp .eq (.call law_draw (.cons (.var 0) (.cons (.int 2) .nil))) (.int 1)) .nil)))) (.seq (.expr (.mth .append (.var 4) (.cons (.tup (.cons (.var 6) (.cons (.ite (.cmp .eq (.call law_draw (.cons (.var 0) (.cons (.int 3) .nil))) (.int 1)) .non (.var 7)) .nil))) .nil))) .skip)))) (.seq (.asg 8 (.lst (.cons (.tup (.cons (.str "unsafe") (.cons (.blt .tuple (.cons (.var 4) .nil)) .nil))) (.cons (.tup (.cons (.str "unsafe") (.cons (.tup .nil) .nil))) .nil)))) (.seq (.asg 9 (.call law_walked (.cons (.var 2) (.cons (.var 4) .nil)))) (.seq (.ifs (.cmp .isin (.var 9) (.var 3)) (.seq (.asg 10 (.bin .add (.blt .tuple (.cons (.var 4) .nil)) (.call law_row_from (.cons (.var 1) (.cons (.var 2) (.cons (.var 3) (.cons (.var 9) .nil))))))) (.seq (.expr (.mth .append (.var 8) (.cons (.tup (.cons (.str "unsafe") (.cons (.var 10) .nil))) .nil))) (.seq (.expr (.mth .append (.var 8) (.cons (.tup (.cons (.str "unsafe") (.cons (.slice (.var 10) .nil (.bin .sub (.blt .len (.cons (.var 10) .nil)) (.int 1))) .nil))) .nil))) (.seq (.expr (.mth .append (.var 8) (.cons (.tup (.cons (.str "unsafe") (.cons (.bin .add (.var 10) (.tup (.cons (.ite (.var 4) (.call law_pick (.cons (.var 0) (.cons (.var 4) .nil))) (.tup (.cons (.neg (.int 1)) (.cons .non .nil)))) .nil))) .nil))) .nil))) .skip)))) .skip) (.seq (.ret (.var 8)) .skip))))))
/-- a right paper of a row -/
def PapR' (n : Nat) (u : U) : Prop := ∃ row : List Sm, RowOk n row ∧ row.length ≤ 100 ∧ u = .tup [.str "unsafe", encRow row]
theorem rowD_ok {n : Nat} {st : List Str} {cls : List Int} : ∀ (m : Nat) (s : S2), dst n st cls s = some m → RowOk n (rowD n st cls s) ∧ (rowD n st cls s).length = m
  | 0, s, h => by rw [rowD_nil h]; exact ⟨(fun _ z => nomatch z), rfl⟩
  | m + 1, s, h => by
    obtain ⟨don, a, rest, e1, e2, e3, e4⟩ := rowD_cons h
    obtain ⟨h1, h2⟩ := rowD_ok m _ e2
    rw [e4]
    refine ⟨fun x hx => ?_, by simp [h2]⟩
    rcases List.mem_cons.mp hx with rfl | hx
    · exact (smAll_mem.mp (by rw [← e1]; simp)).1
    · exact h1 x hx
section
variable {C : CE} {nx bk ct : SU → Hm → Prop} {rt : QU} {M : Hm}
theorem law_rows_ok {fp ff fk fd : Nat} (hP : PickC C fp) (hF : RowFromC C ff) (hK : WalkedL C fk) (hD : DrawC C fd) {p : Addr × Addr} {n : Nat} {st : List Str} {cls : List Int} {l : Addr} {L : Ld} (d : Dr M p) (hn : n ≤ 4) (ho : st ∈ ordersL) (hl : M l = some (leftM L)) (hL : LAll n st cls L) (nl : l ≠ p.1)
    (hq : ∀ a us M', M a = none → Dr M' p → Fr p M M' → M' a = some (.lst us) → us.length ≤ 5 → (∀ u ∈ us, PapR' n u) → rt (.ref a) M') : wS C (B_law_rows fp ff fk fd) ⟨nx, rt, bk, ct⟩ (startU 11 [.ref p.1, .int n, kpT st cls, .ref l]) M := by
  have hlim : LIM = 100000 := rfl
  unfold B_law_rows
  (repeat decreasing_trivial_pre_omega)
  intro q hq0
  have q1 : (um M q (.lst [])) q = some (.lst (([] : List Sm).map encSm)) := um_same
  have l1 := um_old (o := .lst []) hl hq0
  have d1 := d.upd (o := .lst []) hq0
  have f1 : Fr p M (um M q (.lst [])) := (sub_um (Sub.refl _) hq0).fr
  have nq := d.ne hq0
  have nq2 := d.ne2 hq0
  have hlq : l ≠ q := ne_of_old hl hq0
  generalize um M q (.lst []) = M1 at *
  (repeat decreasing_trivial_pre_omega)
  refine hD.lt _ p 5 _ d1 (by decide) (by decide) fun many M2 hmany d2 fr2 => ?_
  have q2 := fr2.at_ nq q1
  have l2 := fr2.at_ nl l1
  have f2 := f1.trans fr2
  (repeat decreasing_trivial_pre_omega)
  refine ⟨by omega, by omega, ?_⟩
  refine forL_nat (fun i σ M' => ∃ u5 u6 u7 row, σ = [some (.ref p.1), some (.int n), some (kpT st cls), some (.ref l), some (.ref q), u5, u6, u7, none, none, none] ∧ Dr M' p ∧ Fr p M M' ∧ M' l = some (leftM L) ∧ M' q = some (.lst (row.map encSm)) ∧ RowOk n row ∧ row.length = i) many ⟨_, _, _, [], rfl, d2, f2, l2, q2, (fun _ z => nomatch z), rfl⟩ ?_ ?_
  · intro i σ M3 k hi ⟨u5, u6, u7, row, e1, d3, f3, l3, q3, r3, h3⟩ hk
    subst e1
    (repeat decreasing_trivial_pre_omega)
    rw [show ((n : Nat) : Int) + 1 = ((n + 1 : Nat) : Int) by omega]
    refine hD.lt _ p (n + 1) _ d3 (by omega) (by omega) fun c M4 hc d4 fr4 => ?_
    (repeat decreasing_trivial_pre_omega)
    refine hD.lt _ p 6 _ d4 (by decide) (by decide) fun j M5 hj d5 fr5 => ?_
    (repeat decreasing_trivial_pre_omega)
    refine hD.lt _ p 2 _ d5 (by decide) (by decide) fun t M6 ht d6 fr6 => ?_
    have q6 := ((fr4.trans fr5).trans fr6).at_ nq q3
    (repeat decreasing_trivial_pre_omega)
    refine hD.lt _ p 3 _ d6 (by decide) (by decide) fun z M7 hz d7 fr7 => ?_
    have fr := ((fr4.trans fr5).trans fr6).trans fr7
    have q7 := fr.at_ nq q3
    have l7 := fr.at_ nl l3
    have f7 := f3.trans fr
    have fin : ∀ (cut : Cut) (u : U), u = cutV cut → ∀ u6 u7, M7 q = some (.lst (row.map encSm)) → k [some (.ref p.1), some (.int n), some (kpT st cls), some (.ref l), some (.ref q), some (.int i), u6, u7, none, none, none] (um M7 q (.lst (row.map encSm ++ [.tup [.int ((c : Int) - 1), u]]))) := fun cut u eu u6 u7 _ => by
      subst eu
      refine hk _ _ trivial ⟨_, _, _, row ++ [((c : Int) - 1, cut)], rfl, d7.upd2 nq nq2, f7.upd hq0, um_oth hlq l7, by rw [um_same]; simp [encSm], fun x hx => ?_, by simp [h3]⟩
      rcases List.mem_append.mp hx with w | w
      · exact r3 x w
      · rw [List.mem_singleton.mp w]
        exact ⟨by dsimp only; omega, by dsimp only; omega⟩
    (repeat decreasing_trivial_pre_omega)
    by_cases hz1 : (z : Int) = 1
    · (repeat decreasing_trivial_pre_omega)
      refine m_app q7 (by rw [List.length_map]; omega) ?_
      (repeat decreasing_trivial_pre_omega)
      exact fin none _ rfl _ _ q7
    · (repeat decreasing_trivial_pre_omega)
      refine m_app q7 (by rw [List.length_map]; omega) ?_
      (repeat decreasing_trivial_pre_omega)
      exact fin (some (j, decide ((t : Int) = 1))) _ rfl _ _ q7
  intro σ M3 ⟨u5, u6, u7, row, e1, d3, f3, l3, q3, r3, h3⟩
  subst e1
  (repeat decreasing_trivial_pre_omega)
  intro a ha
  have ep : U.tup (row.map encSm) = encRow row := rfl
  have l4 := um_old (o := .lst [.tup [.str "unsafe", .tup (row.map encSm)], .tup [.str "unsafe", .tup []]]) l3 ha
  have q4 := um_old (o := .lst [.tup [.str "unsafe", .tup (row.map encSm)], .tup [.str "unsafe", .tup []]]) q3 ha
  have a4 : (um M3 a (.lst [.tup [.str "unsafe", .tup (row.map encSm)], .tup [.str "unsafe", .tup []]])) a = some (.lst [.tup [.str "unsafe", .tup (row.map encSm)], .tup [.str "unsafe", .tup []]]) := um_same
  have d4 := d3.upd (o := .lst [.tup [.str "unsafe", .tup (row.map encSm)], .tup [.str "unsafe", .tup []]]) ha
  have f4 := f3.trans (sub_new (o := .lst [.tup [.str "unsafe", .tup (row.map encSm)], .tup [.str "unsafe", .tup []]]) (Sub.refl _) ha).fr
  have aM : M a = none := Fr.none f3 d3 ha
  have na := d3.ne ha
  have na2 := d3.ne2 ha
  have hla : l ≠ a := ne_of_old l3 ha
  have hqa : q ≠ a := ne_of_old q3 ha
  generalize um M3 a (.lst [.tup [.str "unsafe", .tup (row.map encSm)], .tup [.str "unsafe", .tup []]]) = M4 at *
  (repeat decreasing_trivial_pre_omega)
  refine hK M4 st cls row q _ q4 (ord_len ho) (ordersW ho) fun M5 s5 => ?_
  have l5 := s5 _ _ l4
  have q5 := s5 _ _ q4
  have a5 := s5 _ _ a4
  have d5 := d4.sub s5
  have f5 := f4.trans s5.fr
  have base : ∀ u ∈ [U.tup [.str "unsafe", .tup (row.map encSm)], .tup [.str "unsafe", .tup []]], PapR' n u := fun u hu => by
    simp only [List.mem_cons, List.not_mem_nil, or_false] at hu
    rcases hu with rfl | rfl
    · exact ⟨row, r3, by omega, rfl⟩
    · exact ⟨[], (fun _ z => nomatch z), by simp, rfl⟩
  have l5' := l5
  unfold leftM at l5'
  have hs := row_rch row S0 (n := n) (st := st) .start r3
  generalize row.foldl (smStep st) S0 = s at *
  (repeat decreasing_trivial_pre_omega)
  refine in_dcn l5' rfl ?_
  rw [dfind_amap encS2_inj, Option.isSome_map]
  cases hg : aget L s with
  | none =>
    (repeat decreasing_trivial_pre_omega)
    exact hq a _ M5 aM d5 f5 a5 (by simp) base
  | some m =>
    have hd := ((hL.at_ _ _).mp hg).2
    obtain ⟨k1, k2⟩ := rowD_ok m s hd
    have hm2 := dst_le hd
    (repeat decreasing_trivial_pre_omega)
    refine hF M5 n st cls l L s m _ hn ho l5 hL hs hd fun M6 s6 => ?_
    unfold encRow
    have q6 := s6 _ _ q5
    have a6 := s6 _ _ a5
    have d6 := d5.sub s6
    have f6 := f5.trans s6.fr
    (repeat decreasing_trivial_pre_omega)
    refine o_addT (by rw [List.length_map, List.length_map]; omega) ?_
    rw [← List.map_append]
    have hrow : RowOk n (row ++ rowD n st cls s) := fun x hx => (List.mem_append.mp hx).elim (r3 x) (k1 x)
    have hlen : (row ++ rowD n st cls s).length ≤ 10 := by rw [List.length_append]; omega
    generalize row ++ rowD n st cls s = R at *
    (repeat decreasing_trivial_pre_omega)
    refine m_app a6 (by simp; omega) ?_
    have a7 : (um M6 a (.lst ([U.tup [.str "unsafe", .tup (row.map encSm)], .tup [.str "unsafe", .tup []]] ++ [.tup [.str "unsafe", .tup (R.map encSm)]]))) a = some (.lst ([U.tup [.str "unsafe", .tup (row.map encSm)], .tup [.str "unsafe", .tup []]] ++ [.tup [.str "unsafe", .tup (R.map encSm)]])) := um_same
    have q7 := um_oth (o := .lst ([U.tup [.str "unsafe", .tup (row.map encSm)], .tup [.str "unsafe", .tup []]] ++ [.tup [.str "unsafe", .tup (R.map encSm)]])) hqa q6
    have d7 := d6.upd2 (o := .lst ([U.tup [.str "unsafe", .tup (row.map encSm)], .tup [.str "unsafe", .tup []]] ++ [.tup [.str "unsafe", .tup (R.map encSm)]])) na na2
    have f7 := f6.upd (o := .lst ([U.tup [.str "unsafe", .tup (row.map encSm)], .tup [.str "unsafe", .tup []]] ++ [.tup [.str "unsafe", .tup (R.map encSm)]])) aM
    generalize um M6 a (.lst ([U.tup [.str "unsafe", .tup (row.map encSm)], .tup [.str "unsafe", .tup []]] ++ [.tup [.str "unsafe", .tup (R.map encSm)]])) = M7 at *
    (repeat decreasing_trivial_pre_omega)
    have eR : cutU (R.map encSm) none (some (((R.map encSm).length : Nat) - 1)) = (R.take (R.length - 1)).map encSm := by
      cases R with
      | nil => rfl
      | cons x R =>
        rw [show ((((x :: R).map encSm).length : Nat) : Int) - 1 = ((R.length : Nat) : Int) by simp, cutU_take, List.map_take]
        rfl
    rw [eR]
    refine m_app a7 (by simp; omega) ?_
    have a8 : (um M7 a (.lst (([U.tup [.str "unsafe", .tup (row.map encSm)], .tup [.str "unsafe", .tup []]] ++ [.tup [.str "unsafe", .tup (R.map encSm)]]) ++ [.tup [.str "unsafe", .tup ((R.take (R.length - 1)).map encSm)]]))) a = some (.lst (([U.tup [.str "unsafe", .tup (row.map encSm)], .tup [.str "unsafe", .tup []]] ++ [.tup [.str "unsafe", .tup (R.map encSm)]]) ++ [.tup [.str "unsafe", .tup ((R.take (R.length - 1)).map encSm)]])) := um_same
    have q8 := um_oth (o := .lst (([U.tup [.str "unsafe", .tup (row.map encSm)], .tup [.str "unsafe", .tup []]] ++ [.tup [.str "unsafe", .tup (R.map encSm)]]) ++ [.tup [.str "unsafe", .tup ((R.take (R.length - 1)).map encSm)]])) hqa q7
    have d8 := d7.upd2 (o := .lst (([U.tup [.str "unsafe", .tup (row.map encSm)], .tup [.str "unsafe", .tup []]] ++ [.tup [.str "unsafe", .tup (R.map encSm)]]) ++ [.tup [.str "unsafe", .tup ((R.take (R.length - 1)).map encSm)]])) na na2
    have f8 := f7.upd (o := .lst (([U.tup [.str "unsafe", .tup (row.map encSm)], .tup [.str "unsafe", .tup []]] ++ [.tup [.str "unsafe", .tup (R.map encSm)]]) ++ [.tup [.str "unsafe", .tup ((R.take (R.length - 1)).map encSm)]])) aM
    have bas2 : ∀ u ∈ ([U.tup [.str "unsafe", .tup (row.map encSm)], .tup [.str "unsafe", .tup []]] ++ [.tup [.str "unsafe", .tup (R.map encSm)]]) ++ [.tup [.str "unsafe", .tup ((R.take (R.length - 1)).map encSm)]], PapR' n u := fun u hu => by
      rcases List.mem_append.mp hu with hu | hu
      · rcases List.mem_append.mp hu with hu | hu
        · exact base u hu
        · rw [List.mem_singleton.mp hu]
          exact ⟨R, hrow, by omega, rfl⟩
      · rw [List.mem_singleton.mp hu]
        exact ⟨R.take (R.length - 1), fun x hx => hrow x (List.mem_of_mem_take hx), by rw [List.length_take]; omega, rfl⟩
    have blen : (([U.tup [.str "unsafe", .tup (row.map encSm)], .tup [.str "unsafe", .tup []]] ++ [.tup [.str "unsafe", .tup (R.map encSm)]]) ++ [.tup [.str "unsafe", .tup ((R.take (R.length - 1)).map encSm)]] : List U).length = 4 := by simp
    generalize ((([U.tup [.str "unsafe", .tup (row.map encSm)], .tup [.str "unsafe", .tup []]] ++ [.tup [.str "unsafe", .tup (R.map encSm)]]) ++ [.tup [.str "unsafe", .tup ((R.take (R.length - 1)).map encSm)]] : List U)) = PS at *
    generalize um M7 a (.lst PS) = M8 at *
    have fin : ∀ (sm : Sm) M9, -1 ≤ sm.1 ∧ sm.1 < n → Dr M9 p → Fr p M M9 → M9 a = some (.lst PS) → rt (.ref a) (um M9 a (.lst (PS ++ [.tup [.str "unsafe", .tup (R.map encSm ++ [encSm sm])]]))) := fun sm M9 h1 h2 h3 h4 => by
      refine hq a _ _ aM (h2.upd2 na na2) (h3.upd aM) um_same (by rw [List.length_append, blen]; simp) fun u hu => ?_
      rcases List.mem_append.mp hu with hu | hu
      · exact bas2 u hu
      · rw [List.mem_singleton.mp hu]
        refine ⟨R ++ [sm], fun x hx => ?_, by simp; omega, by unfold encRow; simp⟩
        rcases List.mem_append.mp hx with w | w
        · exact hrow x w
        · rw [List.mem_singleton.mp w]; exact h1
    (repeat decreasing_trivial_pre_omega)
    by_cases hrw : row = []
    · have hrw' : row.map encSm = [] := by rw [hrw]; rfl
      (repeat decreasing_trivial_pre_omega)
      refine o_addT (by simp; omega) ?_
      (repeat decreasing_trivial_pre_omega)
      refine m_app a8 (by rw [blen]; omega) ?_
      (repeat decreasing_trivial_pre_omega)
      exact fin (-1, none) _ ⟨by decide, by show (-1 : Int) < n; omega⟩ d8 f8 a8
    · have hrw' : ¬ row.map encSm = [] := by simpa using hrw
      (repeat decreasing_trivial_pre_omega)
      refine hP M8 p (.ref q) (row.map encSm) _ d8 (.inr ⟨q, rfl, nq, q8⟩) hrw' (by rw [List.length_map]; omega) fun y M9 hy d9 fr9 => ?_
      obtain ⟨sm, hsm, rfl⟩ := List.mem_map.mp hy
      have a9 := fr9.at_ na a8
      (repeat decreasing_trivial_pre_omega)
      refine o_addT (by simp; omega) ?_
      (repeat decreasing_trivial_pre_omega)
      refine m_app a9 (by rw [blen]; omega) ?_
      (repeat decreasing_trivial_pre_omega)
      exact fin sm _ (r3 sm hsm) d9 (f8.trans fr9) a9
def RowsC (C : CE) (f : Nat) : Prop := ∀ (M : Hm) (p : Addr × Addr) (n : Nat) (st : List Str) (cls : List Int) (l : Addr) (L : Ld) (Q : QU), Dr M p → n ≤ 4 → st ∈ ordersL → M l = some (leftM L) → LAll n st cls L → l ≠ p.1 → (∀ a us M', M a = none → Dr M' p → Fr p M M' → M' a = some (.lst us) → us.length ≤ 5 → (∀ u ∈ us, PapR' n u) → Q (.ref a) M') → C f [.ref p.1, .int n, kpT st cls, .ref l] M Q
end
end Pl.Tq

set_option maxHeartbeats 2000000
/-! k80: papers of no right shape -/
namespace Pl.Tq
open PySem L2 K79
def B_law_odd (law_draw : Nat) (law_pick : Nat) (law_reached : Nat) (law_effects : Nat) : S := (.seq (.asg 4 (.call law_effects (.cons (.var 1) (.cons (.var 2) .nil)))) (.seq (.asg 5 (.call law_reached (.cons (.lst (.cons (.tup (.cons (.neg (.int 3)) (.cons (.neg (.int 3)) .nil))) .nil)) (.cons (.var 4) .nil)))) (.seq (.asg 6 (.call law_reached (.cons (.lst (.cons (.tup (.cons (.neg (.int 3)) (.cons (.neg (.int 3)) .nil))) (.cons (.call law_pick (.cons (.var 0) (.cons (.lst (.cons (.tup (.cons (.neg (.int 3)) (.cons (.neg (.int 1)) .nil))) (.cons (.tup (.cons (.neg (.int 4)) (.cons (.neg (.int 3)) .nil))) (.cons (.tup (.cons (.neg (.int 3)) (.cons (.neg (.int 4)) .nil))) .nil)))) .nil))) .nil))) (.cons (.var 4) .nil)))) (.seq (.asg 7 (.call law_pick (.cons (.var 0) (.cons (.lst (.cons .non (.cons (.str "x") (.cons (.int 0) (.cons (.tup .nil) (.cons (.tup (.cons (.neg (.int 3)) .nil)) (.cons (.tup (.cons (.neg (.int 3)) (.cons (.neg (.int 3)) (.cons (.neg (.int 3)) .nil)))) (.cons (.tup (.cons (.var 1) (.cons (.neg (.int 3)) .nil))) (.cons (.tup (.cons (.neg (.int 4)) (.cons (.neg (.int 3)) .nil))) (.cons (.tup (.cons (.neg (.int 3)) (.cons (.var 1) .nil))) (.cons (.tup (.cons (.neg (.int 3)) (.cons (.neg (.int 1)) .nil))) (.cons (.tup (.cons (.neg (.int 3)) (.cons (.neg (.int 4)) .nil))) (.cons (.tup (.cons (.str "") (.cons (.neg (.int 3)) .nil))) (.cons (.tup (.cons (.neg (.int 3)) (.cons .non .nil))) (.cons (.tup (.cons (.tup (.cons (.neg (.int 3)) (.cons (.neg (.int 3)) .nil))) (.cons (.neg (.int 3)) .nil))) .nil))))))))))))))) .nil)))) (.seq (.asg 8 (.call law_pick (.cons (.var 0) (.cons (.lst (.cons .non (.cons (.str "x") (.cons (.int 0) (.cons (.tup .nil) (.cons (.tup (.cons (.int 0) .nil)) (.cons (.tup (.cons (.int 0) (.cons .non (.cons (.int 0) .nil)))) (.cons (.tup (.cons (.var 1) (.cons .non .nil))) (.cons (.tup (.cons (.neg (.int 2)) (.cons .non .nil))) (.cons (.tup (.cons (.str "x") (.cons .non .nil))) (.cons (.tup (.cons .non (.cons .non .nil))) (.cons (.tup (.cons (.int 0) (.cons (.int 0) .nil))) (.cons (.tup (.cons (.int 0) (.cons (.str "cut") .nil))) (.cons (.tup (.cons (.int 0) (.cons (.tup .nil) .nil))) (.cons (.tup (.cons (.int 0) (.cons (.tup (.cons (.int 0) .nil)) .nil))) (.cons (.tup (.cons (.int 0) (.cons (.tup (.cons (.neg (.int 1)) (.cons (.bl false) .nil))) .nil))) (.cons (.tup (.cons (.int 0) (.cons (.tup (.cons (.str "x") (.cons (.bl false) .nil))) .nil))) (.cons (.tup (.cons (.int 0) (.cons (.tup (.cons (.int 0) (.cons (.str "x") .nil))) .nil))) (.cons (.tup (.cons (.int 0) (.cons (.tup (.cons (.int 0) (.cons .non .nil))) .nil))) (.cons (.tup (.cons (.int 0) (.cons (.tup (.cons (.int 0) (.cons (.bl false) (.cons (.int 0) .nil)))) .nil))) .nil)))))))))))))))))))) .nil)))) (.seq (.asg 9 (.call law_draw (.cons (.var 0) (.cons (.bin .add (.blt .len (.cons (.var 5) .nil)) (.int 1)) .nil)))) (.seq (.asg 10 (.blt .tuple (.cons (.var 5) .nil))) (.seq (.ret (.lst (.cons (.tup (.cons (.str "safe") (.cons (.bin .add (.bin .add (.slice (.var 10) .nil (.var 9)) (.tup (.cons (.var 7) .nil))) (.slice (.var 10) (.var 9) .nil)) .nil))) (.cons (.tup (.cons (.str "safe") (.cons (.blt .tuple (.cons (.var 6) .nil)) .nil))) (.cons (.tup (.cons (.str "unsafe") (.cons (.bin .add (.tup (.cons (.var 8) .nil)) (.var 3)) .nil))) (.cons (.tup (.cons (.str "unsafe") (.cons (.bin .add (.var 3) (.tup (.cons (.var 8) .nil))) .nil))) (.cons (.tup (.cons (.str "open") (.cons (.var 10) .nil))) (.cons (.tup (.cons (.str "unsafe") (.cons (.var 10) .nil))) (.cons (.tup (.cons (.str "safe") (.cons (.bin .add (.var 3) (.tup (.cons (.tup (.cons (.int 0) (.cons .non .nil))) .nil))) .nil))) (.cons (.var 10) (.cons (.tup (.cons (.str "safe") .nil)) (.cons (.tup .nil) (.cons .non (.cons (.int 0) (.cons (.str "safe") (.cons (.tup (.cons (.str "safe") (.cons (.var 10) (.cons (.var 10) .nil)))) (.cons (.tup (.cons (.str "safe") (.cons .non .nil))) (.cons (.tup (.cons (.str "safe") (.cons (.str "safe") .nil))) (.cons (.tup (.cons (.str "unsafe") (.cons (.int 0) .nil))) (.cons (.tup (.cons (.var 10) (.cons (.str "safe") .nil))) (.cons (.tup (.cons (.int 0) (.cons (.var 10) .nil))) .nil))))))))))))))))))))) .skip))))))))
/-- what the judge refuses by its shape -/
def OddU (n : Nat) (u : U) : Prop :=
  (u = .non ∨ (∃ i, u = .int i) ∨ ∃ s, u = .str s) ∨ (∃ l, u = .tup l ∧ l.length ≠ 2) ∨ (∃ a b, u = .tup [a, b] ∧ (b = .non ∨ (∃ i, b = .int i) ∨ ∃ s, b = .str s)) ∨
  (∃ a l, u = .tup [a, .tup l] ∧ ((∃ x, a = .tup x ∧ okU (.tup x) = true) ∨ (∃ i, a = .int i) ∨ a = .str "open")) ∨
  (∃ l, u = .tup [.str "safe", .tup l] ∧ l.length ≤ 1000 ∧ (∀ x ∈ l, plnD 1 x = true) ∧ ∃ x ∈ l, stUU n x = false) ∨
  (∃ l, u = .tup [.str "unsafe", .tup l] ∧ l.length ≤ 1000 ∧ (∀ x ∈ l, plnD 2 x = true) ∧ ∃ x ∈ l, smU n x = false)
section
variable {C : CE} {nx bk ct : SU → Hm → Prop} {rt : QU} {M : Hm}
theorem judge_odd {fu fs : Nat} (hU : UnsOdd C fu) (hS : ShowsOdd C fs) {n : Nat} {st : List Str} {cls : List Int} {u : U} (h : OddU n u) (hq : ∀ M', Sub M M' → rt (.bl false) M') : wS C (B_judge_cut fu fs) ⟨nx, rt, bk, ct⟩ (startU 3 [.int n, kpT st cls, u]) M := by
  rcases h with h | ⟨l, rfl, h⟩ | ⟨a, b, rfl, h⟩ | ⟨a, l, rfl, h⟩ | ⟨l, rfl, h1, h2, h3⟩ | ⟨l, rfl, h1, h2, h3⟩
  · exact judge_o1 h (hq _ (Sub.refl _))
  · exact judge_o2 h (hq _ (Sub.refl _))
  · exact judge_o3 h (hq _ (Sub.refl _))
  · exact judge_o4 h (hq _ (Sub.refl _))
  · exact judge_safe (hS M n st cls l _ h1 h2 h3 hq)
  · exact judge_unsafe (hU M n st cls l _ h1 h2 h3 hq)
def JudgeO (C : CE) (f : Nat) : Prop := ∀ (M : Hm) (n : Nat) (st : List Str) (cls : List Int) (u : U) (Q : QU), OddU n u → (∀ M', Sub M M' → Q (.bl false) M') → C f [.int n, kpT st cls, u] M Q
theorem judge_s {fu fs : Nat} (hS : ShowsC C fs) {n : Nat} {st : List Str} {cls : List Int} {X : List S2} (hn : n ≤ 4) (hst : st.length ≤ 3) (hc : ClOk n cls) (nd : X.Nodup) (hX : X.length ≤ 100) (hx : ∀ x ∈ X, SmSt n x) (hq : ∀ b M', Sub M M' → (b = true ↔ JS n st cls X) → rt (.bl b) M') :
    wS C (B_judge_cut fu fs) ⟨nx, rt, bk, ct⟩ (startU 3 [.int n, kpT st cls, .tup [.str "safe", .tup (X.map encS2)]]) M := judge_safe (hS M n st cls X _ hn hst hc nd hX hx hq)
def JudgeS (C : CE) (f : Nat) : Prop := ∀ (M : Hm) (n : Nat) (st : List Str) (cls : List Int) (X : List S2) (Q : QU), n ≤ 4 → st.length ≤ 3 → ClOk n cls → X.Nodup → X.length ≤ 100 → (∀ x ∈ X, SmSt n x) → (∀ b M', Sub M M' → (b = true ↔ JS n st cls X) → Q (.bl b) M') → C f [.int n, kpT st cls, .tup [.str "safe", .tup (X.map encS2)]] M Q
theorem judge_u {fu fs : Nat} (hU : UnsC C fu) {n : Nat} {st : List Str} {cls : List Int} {row : List Sm} (hst : st.length ≤ 3) (hc : ClOk n cls) (hl : row.length ≤ 1000) (hr : RowOk n row) (hq : ∀ M', Sub M M' → rt (.bl (wrongS cls (row.foldl (smStep st) S0))) M') :
    wS C (B_judge_cut fu fs) ⟨nx, rt, bk, ct⟩ (startU 3 [.int n, kpT st cls, .tup [.str "unsafe", encRow row]]) M := judge_unsafe (hU M n st cls row _ hst hc hl hr hq)
def JudgeU (C : CE) (f : Nat) : Prop := ∀ (M : Hm) (n : Nat) (st : List Str) (cls : List Int) (row : List Sm) (Q : QU), st.length ≤ 3 → ClOk n cls → row.length ≤ 1000 → RowOk n row → (∀ M', Sub M M' → Q (.bl (wrongS cls (row.foldl (smStep st) S0))) M') → C f [.int n, kpT st cls, .tup [.str "unsafe", encRow row]] M Q
end
/-! a wider grid -/
def gridW (n : Nat) : List S2 := ((List.range (n + 4)).map fun i => ((i : Nat) : Int) - 4).flatMap fun p => ((List.range (n + 4)).map fun i => ((i : Nat) : Int) - 4).map fun q => (p, q)
def GrW (n : Nat) (s : S2) : Prop := (-4 ≤ s.1 ∧ s.1 < n) ∧ -4 ≤ s.2 ∧ s.2 < n
theorem gridW_mem {n : Nat} {s : S2} (h : GrW n s) : s ∈ gridW n := by
  unfold gridW
  obtain ⟨p, q⟩ := s
  obtain ⟨⟨h1, h2⟩, h3, h4⟩ := h
  simp only at h1 h2 h3 h4
  rw [List.mem_flatMap]
  refine ⟨p, List.mem_map.mpr ⟨(p + 4).toNat, List.mem_range.mpr (by omega), by omega⟩, List.mem_map.mpr ⟨q, List.mem_map.mpr ⟨(q + 4).toNat, List.mem_range.mpr (by omega), by omega⟩, rfl⟩⟩
theorem gridW_le {n : Nat} (hn : n ≤ 4) : (gridW n).length ≤ 98 := by
  have : ∀ n < 5, (gridW n).length ≤ 98 := by decide +kernel
  exact this n (by omega)
theorem eff_rng {n : Nat} {st : List Str} {sm : Sm} (h : sm ∈ smAll n st) : (∀ c, (eff st sm).1 = some c → -3 ≤ c ∧ c < n) ∧ ∀ c, (eff st sm).2 = some c → -3 ≤ c ∧ c < n := by
  have h1 := step_grid (st := st) (S0_grid n) h
  rw [step_eff] at h1
  unfold aft GrS at h1
  refine ⟨fun c e => ?_, fun c e => ?_⟩
  · rw [e] at h1; exact h1.1
  · rw [e] at h1; exact h1.2
theorem aft_W {n : Nat} {st : List Str} {sm : Sm} {s : S2} (h : sm ∈ smAll n st) (hs : GrW n s) : GrW n (aft s (eff st sm)) := by
  obtain ⟨h1, h2⟩ := eff_rng h
  unfold aft GrW
  refine ⟨?_, ?_⟩
  · cases e : (eff st sm).1 with
    | none => exact hs.1
    | some c => have := h1 c e; exact ⟨by show (-4 : Int) ≤ c; omega, this.2⟩
  · cases e : (eff st sm).2 with
    | none => exact hs.2
    | some c => have := h2 c e; exact ⟨by show (-4 : Int) ≤ c; omega, this.2⟩
theorem rchE_W {n : Nat} {st : List Str} {E : List Ef} {S : List S2} (hE : EfOf n st E) (hS : ∀ s ∈ S, GrW n s) {s : S2} (h : RchE E S s) : GrW n s := by
  induction h with
  | start h => exact hS _ h
  | step _ he ih =>
    obtain ⟨sm, hsm, rfl⟩ := hE.1 _ he
    exact aft_W hsm ih
theorem RchE.tr {E : List Ef} {S : List S2} {s : S2} (h : RchE E [S0] s) (h0 : S0 ∈ S) : RchE E S s := by
  induction h with
  | start h => rw [List.mem_singleton.mp h]; exact .start h0
  | step _ he ih => exact .step ih he
def oddSt (n : Nat) : List U := [.non, .str "x", .int 0, .tup [], .tup [.int (-3)], .tup [.int (-3), .int (-3), .int (-3)], .tup [.int n, .int (-3)], .tup [.int (-4), .int (-3)], .tup [.int (-3), .int n], .tup [.int (-3), .int (-1)],
  .tup [.int (-3), .int (-4)], .tup [.str "", .int (-3)], .tup [.int (-3), .non], .tup [.tup [.int (-3), .int (-3)], .int (-3)]]
def oddSm (n : Nat) : List U := [.non, .str "x", .int 0, .tup [], .tup [.int 0], .tup [.int 0, .non, .int 0], .tup [.int n, .non], .tup [.int (-2), .non], .tup [.str "x", .non], .tup [.non, .non], .tup [.int 0, .int 0], .tup [.int 0, .str "cut"],
  .tup [.int 0, .tup []], .tup [.int 0, .tup [.int 0]], .tup [.int 0, .tup [.int (-1), .bl false]], .tup [.int 0, .tup [.str "x", .bl false]], .tup [.int 0, .tup [.int 0, .str "x"]], .tup [.int 0, .tup [.int 0, .non]],
  .tup [.int 0, .tup [.int 0, .bl false, .int 0]]]
theorem oddSt_ok {n : Nat} {u : U} (h : u ∈ oddSt n) : plnD 1 u = true ∧ stUU n u = false := by
  unfold oddSt at h
  simp only [List.mem_cons, List.not_mem_nil, or_false] at h
  rcases h with rfl | rfl | rfl | rfl | rfl | rfl | rfl | rfl | rfl | rfl | rfl | rfl | rfl | rfl <;> refine ⟨rfl, ?_⟩ <;> simp [stUU]
theorem oddSm_ok {n : Nat} {u : U} (h : u ∈ oddSm n) : plnD 2 u = true ∧ smU n u = false := by
  unfold oddSm at h
  simp only [List.mem_cons, List.not_mem_nil, or_false] at h
  rcases h with rfl | rfl | rfl | rfl | rfl | rfl | rfl | rfl | rfl | rfl | rfl | rfl | rfl | rfl | rfl | rfl | rfl | rfl | rfl <;> refine ⟨rfl, ?_⟩ <;> simp [smU, contU, cutOk]
section
variable {C : CE} {nx bk ct : SU → Hm → Prop} {rt : QU} {M : Hm}
theorem law_odd_ok {fd fp fr fe : Nat} (hD : DrawC C fd) (hP : PickC C fp) (hR : ReachC C fr) (hE : EffsC C fe) {p : Addr × Addr} {n : Nat} {st : List Str} {row : List Sm} (d : Dr M p) (hn1 : 0 < n) (hn : n ≤ 4) (ho : st ∈ ordersL) (hr : RowOk n row) (hl : row.length ≤ 100)
    (hq : ∀ a us M', M a = none → Dr M' p → Fr p M M' → M' a = some (.lst us) → us.length = 19 → (∀ u ∈ us, OddU n u) → rt (.ref a) M') : wS C (B_law_odd fd fp fr fe) ⟨nx, rt, bk, ct⟩ (startU 11 [.ref p.1, .int n, stT st, encRow row]) M := by
  have hlim : LIM = 100000 := rfl
  unfold B_law_odd encRow
  (repeat decreasing_trivial_pre_omega)
  refine hE M n st _ hn ho fun e E M1 e0 s1 he hE2 _ => ?_
  (repeat decreasing_trivial_pre_omega)
  intro q0 hq00
  have q1 : (um M1 q0 (.lst [.tup [.int (-3), .int (-3)]])) q0 = some (.lst ([S0].map encS2)) := um_same
  have e1 := um_old (o := .lst [.tup [.int (-3), .int (-3)]]) he hq00
  have s2 : Sub M (um M1 q0 (.lst [.tup [.int (-3), .int (-3)]])) := sub_new s1 hq00
  generalize um M1 q0 (.lst [.tup [.int (-3), .int (-3)]]) = M2 at *
  (repeat decreasing_trivial_pre_omega)
  refine hR M2 E [S0] (gridL n) q0 e _ q1 e1 (by simp) (fun s hs => grid_mem (rch_grid ((rchE_iff hE2 s).mp hs))) (grid_le hn) fun r R M3 r0 s3 hrr nd hRm _ => ?_
  have hRl : R.length ≤ 49 := rch_len hn nd fun s hs => (rchE_iff hE2 s).mp ((hRm s).mp hs)
  have hRs : ∀ s ∈ R, SmSt n s := fun s hs => rch_SmSt hn ho ((rchE_iff hE2 s).mp ((hRm s).mp hs))
  have hS0 : S0 ∈ R := (hRm S0).mpr (.start (by simp))
  have e3 := s3 _ _ e1
  have s4 := s2.trans s3
  have d4 := d.sub s4
  have f4 : Fr p M M3 := s4.fr
  have ne : e ≠ p.1 := d.ne e0
  have nr : r ≠ p.1 := (d.sub s2).ne r0
  clear he q1 e1 s2 s3 s1
  (repeat decreasing_trivial_pre_omega)
  intro a ha
  refine hP _ p (.ref a) [encS2 (-3, -1), encS2 (-4, -3), encS2 (-3, -4)] _ (d4.upd ha) (.inr ⟨a, rfl, d4.ne ha, um_same⟩) (by simp) (by decide) fun y M5 hy d5 fr5 => ?_
  have f5 : Fr p M M5 := (sub_new s4 ha).fr.trans fr5
  have e5 := fr5.at_ ne (um_old e3 ha)
  have r5 := fr5.at_ nr (um_old hrr ha)
  obtain ⟨w, rfl, hw, hwW, hwn⟩ : ∃ w : S2, y = encS2 w ∧ stUU n (encS2 w) = false ∧ GrW n w ∧ w ≠ S0 := by
    simp only [List.mem_cons, List.not_mem_nil, or_false] at hy
    rcases hy with rfl | rfl | rfl
    · exact ⟨(-3, -1), rfl, by simp [stUU, encS2], by unfold GrW; dsimp only; omega, by decide⟩
    · exact ⟨(-4, -3), rfl, by simp [stUU, encS2], by unfold GrW; dsimp only; omega, by decide⟩
    · exact ⟨(-3, -4), rfl, by simp [stUU, encS2], by unfold GrW; dsimp only; omega, by decide⟩
  clear hy fr5 e3 hrr
  (repeat decreasing_trivial_pre_omega)
  intro b hb
  have b6 : (um M5 b (.lst [.tup [.int (-3), .int (-3)], encS2 w])) b = some (.lst ([S0, w].map encS2)) := um_same
  have e6 := um_old (o := .lst [.tup [.int (-3), .int (-3)], encS2 w]) e5 hb
  have r6 := um_old (o := .lst [.tup [.int (-3), .int (-3)], encS2 w]) r5 hb
  have d6 := d5.upd (o := .lst [.tup [.int (-3), .int (-3)], encS2 w]) hb
  have f6 := f5.trans (sub_new (o := .lst [.tup [.int (-3), .int (-3)], encS2 w]) (Sub.refl _) hb).fr
  generalize um M5 b (.lst [.tup [.int (-3), .int (-3)], encS2 w]) = M6 at *
  have hW2 : ∀ s ∈ [S0, w], GrW n s := fun s hs => by
    rcases List.mem_cons.mp hs with rfl | hs
    · unfold GrW S0; dsimp only; omega
    · rw [List.mem_singleton.mp hs]; exact hwW
  (repeat decreasing_trivial_pre_omega)
  refine hR M6 E [S0, w] (gridW n) b e _ b6 e6 (by simp; exact fun z => hwn z.symm) (fun s hs => gridW_mem (rchE_W hE2 hW2 hs)) (gridW_le hn) fun t T M7 t0 s7 ht ndT hT2 hTp => ?_
  have hTl : T.length ≤ 98 := Nat.le_trans (nd_len' ndT fun s hs => gridW_mem (rchE_W hE2 hW2 ((hT2 s).mp hs))) (gridW_le hn)
  have hwT : w ∈ T := hTp.subset (by simp)
  have r7 := s7 _ _ r6
  have d7 := d6.sub s7
  have f7 := f6.trans s7.fr
  have nt : t ≠ p.1 := d6.ne t0
  clear b6 e6 r6 d6 s7 e5 r5
  (repeat decreasing_trivial_pre_omega)
  intro c hc
  refine hP _ p (.ref c) (oddSt n) _ (d7.upd hc) (.inr ⟨c, rfl, d7.ne hc, um_same⟩) (by unfold oddSt; simp) (by unfold oddSt; simp) fun y M8 hy d8 fr8 => ?_
  have f8 : Fr p M M8 := f7.trans ((sub_new (Sub.refl _) hc).fr.trans fr8)
  have r8 := fr8.at_ nr (um_old r7 hc)
  have t8 := fr8.at_ nt (um_old ht hc)
  have hy := oddSt_ok hy
  clear fr8 r7 ht
  (repeat decreasing_trivial_pre_omega)
  intro g hg
  refine hP _ p (.ref g) (oddSm n) _ (d8.upd hg) (.inr ⟨g, rfl, d8.ne hg, um_same⟩) (by unfold oddSm; simp) (by unfold oddSm; simp) fun z M9 hz d9 fr9 => ?_
  have f9 : Fr p M M9 := f8.trans ((sub_new (Sub.refl _) hg).fr.trans fr9)
  have r9 := fr9.at_ nr (um_old r8 hg)
  have t9 := fr9.at_ nt (um_old t8 hg)
  have hz := oddSm_ok hz
  clear fr9 r8 t8
  (repeat decreasing_trivial_pre_omega)
  rw [List.length_map, show ((R.length : Nat) : Int) + 1 = ((R.length + 1 : Nat) : Int) by omega]
  refine hD.lt _ p (R.length + 1) _ d9 (by omega) (by omega) fun k M10 hk d10 fr10 => ?_
  have f10 := f9.trans fr10
  have r10 := fr10.at_ nr r9
  have t10 := fr10.at_ nt t9
  clear fr10 r9 t9
  have hk49 : k ≤ 49 := by omega
  (repeat decreasing_trivial_pre_omega)
  rw [cutU_take, ← List.map_take]
  refine o_addT (by simp; omega) ?_
  (repeat decreasing_trivial_pre_omega)
  rw [cutU_from, ← List.map_drop]
  refine o_addT (by simp; omega) ?_
  (repeat decreasing_trivial_pre_omega)
  refine o_addT (by simp; omega) ?_
  (repeat decreasing_trivial_pre_omega)
  refine o_addT (by simp; omega) ?_
  (repeat decreasing_trivial_pre_omega)
  refine o_addT (by simp; omega) ?_
  (repeat decreasing_trivial_pre_omega)
  intro v hv
  refine hq v _ _ (Fr.none f10 d10 hv) (d10.upd hv) (f10.trans (sub_new (Sub.refl _) hv).fr) um_same rfl fun u hu => ?_
  have pS : ∀ (X : List S2), ∀ x ∈ X.map encS2, plnD 1 x = true ∧ plnD 2 x = true := fun X x hx => by
    obtain ⟨s, _, rfl⟩ := List.mem_map.mp hx
    exact ⟨rfl, rfl⟩
  have pR : ∀ x ∈ row.map encSm, plnD 1 x = true ∧ plnD 2 x = true := fun x hx => by
    obtain ⟨⟨s1, s2⟩, _, rfl⟩ := List.mem_map.mp hx
    cases s2 <;> exact ⟨rfl, rfl⟩
  have okR : okU (.tup (R.map encS2)) = true := by
    have : okU (.tup (R.map encS2)) = okL (R.map encS2) := by rfl
    rw [this]
    exact List.all_eq_true.mpr fun x hx => by
      obtain ⟨s, _, rfl⟩ := List.mem_map.mp hx
      rfl
  simp only [List.mem_cons, List.not_mem_nil, or_false] at hu
  rcases hu with rfl | rfl | rfl | rfl | rfl | rfl | rfl | rfl | rfl | rfl | rfl | rfl | rfl | rfl | rfl | rfl | rfl | rfl | rfl
  · refine .inr (.inr (.inr (.inr (.inl ⟨_, rfl, by simp; omega, fun x hx => ?_, y, by simp, hy.2⟩))))
    rcases List.mem_append.mp hx with hx | hx
    · rcases List.mem_append.mp hx with hx | hx
      · exact (pS _ x hx).1
      · rw [List.mem_singleton.mp hx]; exact hy.1
    · exact (pS _ x hx).1
  · exact .inr (.inr (.inr (.inr (.inl ⟨_, rfl, by simp; omega, fun x hx => (pS _ x hx).1, encS2 w, List.mem_map.mpr ⟨w, hwT, rfl⟩, hw⟩))))
  · refine .inr (.inr (.inr (.inr (.inr ⟨_, rfl, by simp; omega, fun x hx => ?_, z, by simp, hz.2⟩))))
    rcases List.mem_append.mp hx with hx | hx
    · rw [List.mem_singleton.mp hx]; exact hz.1
    · exact (pR x hx).2
  · refine .inr (.inr (.inr (.inr (.inr ⟨_, rfl, by simp; omega, fun x hx => ?_, z, by simp, hz.2⟩))))
    rcases List.mem_append.mp hx with hx | hx
    · exact (pR x hx).2
    · rw [List.mem_singleton.mp hx]; exact hz.1
  · exact .inr (.inr (.inr (.inl ⟨_, _, rfl, .inr (.inr rfl)⟩)))
  · exact .inr (.inr (.inr (.inr (.inr ⟨_, rfl, by simp; omega, fun x hx => (pS _ x hx).2, encS2 S0, List.mem_map.mpr ⟨S0, hS0, rfl⟩, by simp [smU, encS2, cutOk]⟩))))
  · refine .inr (.inr (.inr (.inr (.inl ⟨_, rfl, by simp; omega, fun x hx => ?_, .tup [.int 0, .non], by simp, rfl⟩))))
    rcases List.mem_append.mp hx with hx | hx
    · exact (pR x hx).1
    · rw [List.mem_singleton.mp hx]; rfl
  · by_cases h2 : R.length = 2
    · match R, h2 with
      | [a, b], _ => exact .inr (.inr (.inr (.inl ⟨_, _, rfl, .inl ⟨_, rfl, rfl⟩⟩)))
    · exact .inr (.inl ⟨_, rfl, by rw [List.length_map]; exact h2⟩)
  · exact .inr (.inl ⟨_, rfl, by decide⟩)
  · exact .inr (.inl ⟨_, rfl, by decide⟩)
  · exact .inl (.inl rfl)
  · exact .inl (.inr (.inl ⟨_, rfl⟩))
  · exact .inl (.inr (.inr ⟨_, rfl⟩))
  · exact .inr (.inl ⟨_, rfl, by simp⟩)
  · exact .inr (.inr (.inl ⟨_, _, rfl, .inl rfl⟩))
  · exact .inr (.inr (.inl ⟨_, _, rfl, .inr (.inr ⟨_, rfl⟩)⟩))
  · exact .inr (.inr (.inl ⟨_, _, rfl, .inr (.inl ⟨_, rfl⟩)⟩))
  · exact .inr (.inr (.inl ⟨_, _, rfl, .inr (.inr ⟨_, rfl⟩)⟩))
  · exact .inr (.inr (.inr (.inl ⟨_, _, rfl, .inr (.inl ⟨_, rfl⟩)⟩)))
def OddC (C : CE) (f : Nat) : Prop := ∀ (M : Hm) (p : Addr × Addr) (n : Nat) (st : List Str) (row : List Sm) (Q : QU), Dr M p → 0 < n → n ≤ 4 → st ∈ ordersL → RowOk n row → row.length ≤ 100 → (∀ a us M', M a = none → Dr M' p → Fr p M M' → M' a = some (.lst us) → us.length = 19 → (∀ u ∈ us, OddU n u) → Q (.ref a) M') → C f [.ref p.1, .int n, stT st, encRow row] M Q
end
end Pl.Tq

set_option maxHeartbeats 2000000
/-! k80: the orders, drawn keepings, safe orders -/
namespace Pl.Tq
open PySem L2 K79
def B_law_orders : S := (.seq (.ret (.lst (.cons (.tup (.cons (.str "drop") (.cons (.str "files") (.cons (.str "paper") .nil)))) (.cons (.tup (.cons (.str "drop") (.cons (.str "paper") (.cons (.str "files") .nil)))) (.cons (.tup (.cons (.str "files") (.cons (.str "drop") (.cons (.str "paper") .nil)))) (.cons (.tup (.cons (.str "files") (.cons (.str "paper") .nil))) (.cons (.tup (.cons (.str "files") (.cons (.str "paper") (.cons (.str "drop") .nil)))) (.cons (.tup (.cons (.str "paper") (.cons (.str "drop") (.cons (.str "files") .nil)))) (.cons (.tup (.cons (.str "paper") (.cons (.str "files") .nil))) (.cons (.tup (.cons (.str "paper") (.cons (.str "files") (.cons (.str "drop") .nil)))) .nil)))))))))) .skip)
def B_law_keeping (law_draw : Nat) (law_pick : Nat) (law_orders : Nat) : S := (.seq (.asg 2 (.call law_orders .nil)) (.seq (.asg 3 (.call law_pick (.cons (.var 0) (.cons (.bin .add (.var 2) (.bin .mul (.slice (.var 2) .nil (.int 1)) (.int 3))) .nil)))) (.seq (.asg 4 (.call law_draw (.cons (.var 0) (.cons (.int 3) .nil)))) (.seq (.ifs (.cmp .eq (.var 4) (.int 0)) (.seq (.ret (.tup (.cons (.var 3) (.cons (.lrng true .nil (.bin .add (.var 1) (.int 1))) .nil)))) .skip) .skip) (.seq (.ifs (.cmp .eq (.var 4) (.int 1)) (.seq (.ret (.tup (.cons (.var 3) (.cons (.tup .nil) .nil)))) .skip) .skip) (.seq (.ret (.tup (.cons (.var 3) (.cons (.blt .tuple (.cons (.comp [("k", 5)] (.one 5) (.iRange (.bin .add (.var 1) (.int 1))) .nil (.call law_draw (.cons (.var 0) (.cons (.bin .add (.var 1) (.int 1)) .nil)))) .nil)) .nil)))) .skip))))))
def B_safe_orders (cut_table : Nat) : S := (.seq (.ret (.blt .tuple (.cons (.comp [("steps", 2)] (.one 2) (.iSeq (.gdat "ORDERS" (.dtp [(.dtp [(.str "drop"), (.str "files"), (.str "paper")]), (.dtp [(.str "drop"), (.str "paper"), (.str "files")]), (.dtp [(.str "files"), (.str "drop"), (.str "paper")]), (.dtp [(.str "files"), (.str "paper")]), (.dtp [(.str "files"), (.str "paper"), (.str "drop")]), (.dtp [(.str "paper"), (.str "drop"), (.str "files")]), (.dtp [(.str "paper"), (.str "files")]), (.dtp [(.str "paper"), (.str "files"), (.str "drop")])]))) (.cmp .eq (.ix (.call cut_table (.cons (.var 0) (.cons (.tup (.cons (.var 2) (.cons (.var 1) .nil))) .nil))) (.int 0)) (.str "safe")) (.var 2)) .nil))) .skip)
def OrdT (C : CE) (f : Nat) : Prop := ∀ (M : Hm) (Q : QU), (∀ q, M q = none → Q (.ref q) (um M q (.lst (ordersL.map stT)))) → C f [] M Q
theorem orders_ok {C : CE} {nx bk ct : SU → Hm → Prop} {rt : QU} {M : Hm} (hq : ∀ q, M q = none → rt (.ref q) (um M q (.lst (ordersL.map stT)))) : wS C B_law_orders ⟨nx, rt, bk, ct⟩ (startU 0 []) M := by
  unfold B_law_orders
  (repeat decreasing_trivial_pre_omega)
  intro q hq0
  exact hq q hq0
theorem law_keeping_ok {C : CE} {fd fp fo : Nat} (hD : DrawC C fd) (hP : PickC C fp) (hO : OrdT C fo) {nx bk ct : SU → Hm → Prop} {rt : QU} {M : Hm} {p : Addr × Addr} {n : Nat} (d : Dr M p) (n2 : n ≤ 4) (hq : ∀ (st : List Str) (cls : List Int) M', st ∈ ordersL → ClOk n cls → Dr M' p → Fr p M M' → rt (kpT st cls) M') :
    wS C (B_law_keeping fd fp fo) ⟨nx, rt, bk, ct⟩ (startU 6 [.ref p.1, .int n]) M := by
  unfold B_law_keeping
  have hl : LIM = 100000 := rfl
  (repeat decreasing_trivial_pre_omega)
  refine hO _ _ fun q hq0 => ?_
  (repeat decreasing_trivial_pre_omega)
  intro q1 hq1
  (repeat decreasing_trivial_pre_omega)
  refine o_rep um_same (by omega) (by omega) (by rw [show ((3 : Int).toNat) = 3 from rfl]; show _ * 3 ≤ _; decide +kernel) fun q2 hq2 => ?_
  refine o_addL (um_old (um_old um_same hq1) hq2) um_same (by decide +kernel) fun q3 hq3 => ?_
  (repeat decreasing_trivial_pre_omega)
  have hq1' := um_none hq1
  have hq2' := um_none (um_none hq2)
  have hq3' := um_none (um_none (um_none hq3))
  refine hP _ p (.ref q3) _ _ ((((d.upd hq0).upd hq1).upd hq2).upd hq3) (.inr ⟨q3, rfl, d.ne hq3', um_same⟩) (by decide +kernel) (by decide +kernel) fun u M4 hu d4 fr4 => ?_
  have hst : ∃ st ∈ ordersL, u = stT st := by
    rcases List.mem_append.mp hu with hu | hu
    · obtain ⟨st, h, e⟩ := List.mem_map.mp hu
      exact ⟨st, h, e.symm⟩
    · rw [List.mem_flatten] at hu
      obtain ⟨l, hl, hu⟩ := hu
      have hl2 := List.eq_of_mem_replicate hl
      subst hl2
      have hu2 : u ∈ ordersL.map stT := by
        have := cutU_take (ordersL.map stT) 1
        rw [show cutU (ordersL.map stT) none (some 1) = (ordersL.map stT).take 1 from this] at hu
        exact List.mem_of_mem_take hu
      obtain ⟨st, h, e⟩ := List.mem_map.mp hu2
      exact ⟨st, h, e.symm⟩
  obtain ⟨st, hs, rfl⟩ := hst
  have so := ord_ok st hs
  (repeat decreasing_trivial_pre_omega)
  refine hD.lt _ p 3 _ d4 (by decide) (by decide) fun r M5 hr d5 fr5 => ?_
  have fr := (Fr.trans (Fr.upd (Fr.upd (Fr.upd (Fr.upd (Fr.refl p M) hq0) hq1') hq2') hq3') fr4).trans fr5
  (repeat decreasing_trivial_pre_omega)
  by_cases h0 : (r : Int) = 0
  · (repeat decreasing_trivial_pre_omega)
    refine ⟨by omega, by omega, ?_⟩
    refine i_ift rfl ?_
    (repeat decreasing_trivial_pre_omega)
    have e : rngU 0 ((n : Int) + 1) = ((List.range (n + 1)).map fun i : Nat => ((i : Nat) : Int)).map U.int := by
      rw [show ((n : Int) + 1) = ((n + 1 : Nat) : Int) by omega, rngU_nat, List.map_map]
      rfl
    rw [e]
    exact hq st _ _ hs (.inr (by rw [List.length_map, List.length_range])) d5 fr
  · (repeat decreasing_trivial_pre_omega)
    by_cases h1 : (r : Int) = 1
    · (repeat decreasing_trivial_pre_omega)
      exact hq st [] _ hs (.inl rfl) d5 fr
    · (repeat decreasing_trivial_pre_omega)
      refine ⟨by omega, by omega, ?_⟩
      rw [show ((n : Int) + 1) = ((n + 1 : Nat) : Int) by omega]
      refine compL_nat (fun i acc M' => Dr M' p ∧ Fr p M M' ∧ ∃ cls : List Int, acc = cls.map U.int ∧ cls.length = i) (n + 1) ⟨d5, fr, [], rfl, rfl⟩ ?_ ?_
      · intro i acc M' k hi ⟨e1, e2, cls, e3, e4⟩ hk
        subst e3
        (repeat decreasing_trivial_pre_omega)
        refine hD.lt _ p (n + 1) _ e1 (by omega) (by omega) fun c M6 hc d6 fr6 => ?_
        exact hk _ _ trivial (fun _ => by rw [List.length_map]; omega) ⟨d6, e2.trans fr6, cls ++ [(c : Int)], by simp, by rw [List.length_append, e4]; rfl⟩
      · intro acc M' ⟨e1, e2, cls, e3, e4⟩
        subst e3
        intro q hq0
        (repeat decreasing_trivial_pre_omega)
        exact hq st cls _ hs (.inr e4) (e1.upd hq0) (e2.upd (by
          cases z : M q with
          | none => rfl
          | some o => rw [e2 q (e1.ne hq0) o z] at hq0; cases hq0))
def KeepT (C : CE) (f : Nat) : Prop := ∀ (M : Hm) (p : Addr × Addr) (n : Nat) (Q : QU), Dr M p → n ≤ 4 → (∀ (st : List Str) (cls : List Int) M', st ∈ ordersL → ClOk n cls → Dr M' p → Fr p M M' → Q (kpT st cls) M') → C f [.ref p.1, .int n] M Q
/-- told by the first wrong state -/
def safeB (n : Nat) (cls : List Int) (st : List Str) : Bool := (dst n st cls S0).isNone
theorem none_safe {n : Nat} {st : List Str} {cls : List Int} (h : dst n st cls S0 = none) : ∀ s, RchS n st s → wrongS cls s = false := by
  intro s hs
  cases hw : wrongS cls s with
  | false => rfl
  | true =>
    exfalso
    unfold dst at h
    rcases two_steps hs with rfl | ⟨a, ha, rfl⟩ | ⟨a, ha, b, hb, rfl⟩
    · rw [if_pos hw] at h; cases h
    · have := (w1_iff (n := n) (st := st) (cls := cls)).mpr ⟨a, ha, hw⟩
      rw [this] at h
      split at h <;> simp at h
    · have := (w2_iff (n := n) (st := st) (cls := cls)).mpr ⟨a, ha, b, hb, hw⟩
      rw [this] at h
      split at h
      · cases h
      · split at h <;> simp at h
theorem safeB_iff {n : Nat} {cls : List Int} {st : List Str} (hn : n ≤ 4) (ho : st ∈ ordersL) (hc : ClOk n cls) : safeB n cls st = true ↔ ∀ s, RchS n st s → wrongS cls s = false := by
  unfold safeB
  rw [Option.isNone_iff_eq_none]
  exact ⟨none_safe, safe_none⟩
def TabU (C : CE) (f : Nat) : Prop := ∀ (M : Hm) (n : Nat) (st : List Str) (cls : List Int) (Q : QU), n ≤ 4 → st.length ≤ 3 → ClOk n cls → (∀ us M', Sub M M' → (∀ s, RchS n st s → wrongS cls s = false) → Q (.tup [.str "safe", .tup us]) M') → (∀ row M', Sub M M' → BadRow n st cls row → Q (.tup [.str "unsafe", Pl.encRow row]) M') → C f [.int n, kpU st cls] M Q
section
variable {C : CE} {nx bk ct : SU → Hm → Prop} {rt : QU} {M : Hm}
theorem safe_orders_ok {ft : Nat} (hT : TabU C ft) {n : Nat} {cls : List Int} (hn : n ≤ 4) (hc : ClOk n cls) (hq : ∀ M', Sub M M' → rt (.tup ((ordersL.filter (safeB n cls)).map stU)) M') :
    wS C (B_safe_orders ft) ⟨nx, rt, bk, ct⟩ (startU 3 [.int n, .tup (cls.map U.int)]) M := by
  have hlim : LIM = 100000 := rfl
  unfold B_safe_orders
  (repeat decreasing_trivial_pre_omega)
  refine compL_by (enc := stU) (fun don rest acc M' => Sub M M' ∧ acc = (don.filter (safeB n cls)).map stU) ordersL ⟨Sub.refl _, rfl⟩ ?_ ?_
  · intro don st rest acc M1 k e ⟨s1, e2⟩ hk
    subst e2
    have ho : st ∈ ordersL := by rw [← e]; simp
    have hdl : (don.filter (safeB n cls)).length ≤ 8 := by
      have h1 := List.length_filter_le (safeB n cls) don
      have h2 : (don ++ st :: rest).length = 8 := by rw [e]; rfl
      simp at h2
      omega
    (repeat decreasing_trivial_pre_omega)
    refine hT M1 n st cls _ hn (ord_len ho) hc (fun us M2 s2 hs => ?_) fun row M2 s2 hb => ?_
    · have hb := (safeB_iff hn ho hc).mpr hs
      (repeat decreasing_trivial_pre_omega)
      refine hk _ _ trivial (fun _ => by rw [List.length_map]; omega) ⟨s1.trans s2, ?_⟩
      rw [List.filter_append]
      simp [hb]
    · have hb : safeB n cls st = false := by
        cases h : safeB n cls st with
        | false => rfl
        | true => exact absurd ((safeB_iff hn ho hc).mp h) hb.not_safe
      (repeat decreasing_trivial_pre_omega)
      refine hk _ _ trivial (fun z => by cases z) ⟨s1.trans s2, ?_⟩
      rw [List.filter_append]
      simp [hb]
  · intro acc M1 ⟨s1, e2⟩
    subst e2
    intro a ha
    (repeat decreasing_trivial_pre_omega)
    exact hq _ (sub_new s1 ha)
def SoC (C : CE) (f : Nat) : Prop := ∀ (M : Hm) (n : Nat) (cls : List Int) (Q : QU), n ≤ 4 → ClOk n cls → (∀ M', Sub M M' → Q (.tup ((ordersL.filter (safeB n cls)).map stU)) M') → C f [.int n, .tup (cls.map U.int)] M Q
/-! tuples that differ in kind -/
theorem sameDT_ok {fi f : Nat} (hi : IsIntC C fi) (hr : SameE C f 0) {st : List Str} (hl : st.length ≤ 3) (hq : rt (.bl true) M) :
    wS C (B_law_same fi f) ⟨nx, rt, bk, ct⟩ (startU 3 [stU st, stT st]) M := by
  have hlim : LIM = 100000 := rfl
  unfold B_law_same stU stT
  (repeat decreasing_trivial_pre_omega)
  refine ⟨by rw [List.length_map]; omega, by rw [List.length_map]; omega, ?_⟩
  refine forL_nat (fun i σ M' => (∃ u2, σ = [some (.dtp (st.map U.str)), some (.tup (st.map U.str)), u2]) ∧ M' = M) (st.map U.str).length ⟨⟨_, rfl⟩, rfl⟩ ?_ ?_
  · intro j σ M' k hj ⟨⟨u2, e1⟩, e2⟩ hk
    subst e1 e2
    (repeat decreasing_trivial_pre_omega)
    refine x_dtp (atI_nat hj) ?_
    (repeat decreasing_trivial_pre_omega)
    refine x_tup (atI_nat hj) ?_
    (repeat decreasing_trivial_pre_omega)
    refine hr _ _ _ (by rw [List.getElem_map]; rfl) ?_
    (repeat decreasing_trivial_pre_omega)
    exact hk _ _ trivial ⟨⟨_, rfl⟩, rfl⟩
  · intro σ M' ⟨⟨u2, e1⟩, e2⟩
    subst e1 e2
    (repeat decreasing_trivial_pre_omega)
    exact hq
def SameDT (C : CE) (f : Nat) : Prop := ∀ (M : Hm) (st : List Str) (Q : QU), st.length ≤ 3 → Q (.bl true) M → C f [stU st, stT st] M Q
theorem sameL_ok {fi f : Nat} (hi : IsIntC C fi) (hr : SameDT C f) {L : List (List Str)} (hl : L.length ≤ 100) (ho : ∀ st ∈ L, st.length ≤ 3) (hq : rt (.bl true) M) :
    wS C (B_law_same fi f) ⟨nx, rt, bk, ct⟩ (startU 3 [.tup (L.map stU), .tup (L.map stT)]) M := by
  have hlim : LIM = 100000 := rfl
  have hll : ((L.map stU).length : Int) = ((L.map stT).length : Int) := by simp
  unfold B_law_same
  (repeat decreasing_trivial_pre_omega)
  refine ⟨by rw [List.length_map]; omega, by rw [List.length_map]; omega, ?_⟩
  refine forL_nat (fun i σ M' => (∃ u2, σ = [some (.tup (L.map stU)), some (.tup (L.map stT)), u2]) ∧ M' = M) (L.map stT).length ⟨⟨_, rfl⟩, rfl⟩ ?_ ?_
  · intro j σ M' k hj ⟨⟨u2, e1⟩, e2⟩ hk
    subst e1 e2
    have hj1 : j < (L.map stU).length := by simpa using hj
    have hj2 : j < L.length := by simpa using hj
    (repeat decreasing_trivial_pre_omega)
    refine x_tup (atI_nat hj1) ?_
    (repeat decreasing_trivial_pre_omega)
    refine x_tup (atI_nat hj) ?_
    (repeat decreasing_trivial_pre_omega)
    rw [List.getElem_map, List.getElem_map]
    refine hr _ _ _ (ho _ (List.getElem_mem hj2)) ?_
    (repeat decreasing_trivial_pre_omega)
    exact hk _ _ trivial ⟨⟨_, rfl⟩, rfl⟩
  · intro σ M' ⟨⟨u2, e1⟩, e2⟩
    subst e1 e2
    (repeat decreasing_trivial_pre_omega)
    exact hq
def SameL (C : CE) (f : Nat) : Prop := ∀ (M : Hm) (L : List (List Str)) (Q : QU), L.length ≤ 100 → (∀ st ∈ L, st.length ≤ 3) → Q (.bl true) M → C f [.tup (L.map stU), .tup (L.map stT)] M Q
end
/-! what is told is a right paper -/
theorem due_pap {n : Nat} {st : List Str} {cls : List Int} {u : U} (hn : n ≤ 4) (ho : st ∈ ordersL) (h : DueU n st cls u) : PapS n u ∨ PapR' n u := by
  rcases h with ⟨h, rfl⟩ | ⟨h, D, nd, hD, rfl⟩
  · right
    cases e : dst n st cls S0 with
    | none => exact absurd e h
    | some m =>
      obtain ⟨h1, h2⟩ := rowD_ok m S0 e
      have := dst_le e
      exact ⟨_, h1, by omega, rfl⟩
  · left
    have hl := rch_len hn nd fun s hs => (hD s).mp hs
    refine ⟨D.mergeSort fun a b => W.dataLe false pd (encS2 a) (encS2 b), (List.mergeSort_perm _ _).nodup_iff.mpr nd, by rw [List.length_mergeSort]; omega, fun x hx => rch_SmSt hn ho ((hD x).mp ((List.mergeSort_perm _ _).mem_iff.mp hx)), ?_⟩
    unfold sortU
    rw [List.map_mergeSort (s := W.dataLe false pd) fun _ _ _ _ => rfl]
theorem okV_due {n : Nat} {st : List Str} {cls : List Int} {u : U} (hn : n ≤ 4) (ho : st ∈ ordersL) (h : DueU n st cls u) : okV 4 u = true := by
  have hlim : LIM = 100000 := rfl
  rcases due_pap hn ho h with ⟨X, _, hl, _, rfl⟩ | ⟨row, _, hl, rfl⟩
  · refine okV_tup (by simp; omega) fun x hx => ?_
    simp only [List.mem_cons, List.not_mem_nil, or_false] at hx
    rcases hx with rfl | rfl
    · rfl
    · exact okV_map (by omega) fun s _ => rfl
  · refine okV_tup (by simp; omega) fun x hx => ?_
    simp only [List.mem_cons, List.not_mem_nil, or_false] at hx
    rcases hx with rfl | rfl
    · rfl
    · exact okV_map (by omega) fun s _ => by
        obtain ⟨c, k⟩ := s
        cases k with
        | none => rfl
        | some k => rfl
theorem sort_orders : sortU (ordersL.map stT) = ordersL.map stT := by
  refine List.mergeSort_of_pairwise ?_
  decide +kernel
theorem sortOk_orders : sortOk (ordersL.map stT) := by
  refine ⟨by decide +kernel, ?_, ?_, by decide +kernel⟩
  · unfold W.AllAlike
    decide +kernel
  · left
    have ne : ∀ st ∈ ordersL, st.isEmpty = false := by decide +kernel
    intro d hd
    simp only [List.mem_map] at hd
    obtain ⟨_, ⟨a, ha, rfl⟩, rfl⟩ := hd
    have hne : a ≠ [] := fun z => by
      have := ne a ha
      rw [z] at this
      cases this
    cases a with
    | nil => exact absurd rfl hne
    | cons x a => exact ⟨_, _, pd_tup _ _⟩
end Pl.Tq

set_option maxHeartbeats 1000000
/-! a thing drawn out of a list -/
namespace Pl
open PySem L2 K79
def PopXC (C : CE) (f : Nat) : Prop := ∀ (M : Hm) (p : Addr × Addr) (r : Addr) (us : List U) (Q : QU), Dr M p → M r = some (.lst us) → us ≠ [] → us.length ≤ 1000 → r ≠ p.1 → r ≠ p.2 →
  (∀ (k : Nat) (hk : k < us.length) M', Dr M' p → (∀ a, a ≠ p.1 → a ≠ r → ∀ o, M a = some o → M' a = some o) → M' r = some (.lst (us.eraseIdx k)) → Q us[k] M') → C f [.ref p.1, .ref r] M Q
section
variable {C : CE} {nx bk ct : SU → Hm → Prop} {rt : QU} {M : Hm}
theorem law_popx_ok {fd : Nat} (hD : DrawC C fd) {p : Addr × Addr} {r : Addr} {us : List U} (d : Dr M p) (h1 : M r = some (.lst us)) (h2 : us ≠ []) (h3 : us.length ≤ 1000) (n1 : r ≠ p.1) (n2 : r ≠ p.2)
    (hq : ∀ (k : Nat) (hk : k < us.length) M', Dr M' p → (∀ a, a ≠ p.1 → a ≠ r → ∀ o, M a = some o → M' a = some o) → M' r = some (.lst (us.eraseIdx k)) → rt us[k] M') :
    wS C (B_law_pop fd) ⟨nx, rt, bk, ct⟩ (startU 2 [.ref p.1, .ref r]) M := by
  have hl := List.length_pos_iff.mpr h2
  unfold B_law_pop
  (repeat decreasing_trivial_pre_omega)
  refine hD.lt _ p us.length _ d hl (by omega) fun k M1 hk d1 fr1 => ?_
  (repeat decreasing_trivial_pre_omega)
  refine m_popAt (fr1.at_ n1 h1) (by unfold LIM; omega) (ixN_nat hk) (List.getElem?_eq_getElem hk) ?_
  refine hq k hk _ (d1.upd2 n1 n2) (fun a a1 a2 o e => ?_) um_same
  rw [um_ne a2]
  exact fr1 a a1 o e
end
end Pl

set_option maxHeartbeats 2000000
/-! k80: the law -/
namespace Pl.Tq
open PySem L2 K79
def B_law (law_same : Nat) (cut_table : Nat) (law_draw : Nat) (safe_orders : Nat) (law_orders : Nat) (law_is_safe : Nat) (law_odd : Nat) (judge_cut : Nat) (law_pop : Nat) (law_takes : Nat) (law_rows : Nat) (law_states : Nat) (law_due : Nat) (law_left : Nat) (law_keeping : Nat) (law_pick : Nat) (law_begin : Nat) : S := (.seq (.asg 1 (.call law_begin (.cons (.var 0) .nil))) (.seq (.asg 2 (.call law_pick (.cons (.var 1) (.cons (.lst (.cons (.int 2) (.cons (.int 1) (.cons (.int 2) (.cons (.int 4) (.cons (.int 2) (.cons (.int 3) (.cons (.int 2) .nil)))))))) .nil)))) (.seq (.asg 3 (.call law_keeping (.cons (.var 1) (.cons (.var 2) .nil)))) (.seq (.asg 4 (.call law_left (.cons (.var 2) (.cons (.var 3) .nil)))) (.seq (.asg 5 (.call law_due (.cons (.var 2) (.cons (.var 3) (.cons (.var 4) .nil))))) (.seq (.ifs (.not (.call law_same (.cons (.call cut_table (.cons (.var 2) (.cons (.var 3) .nil))) (.cons (.var 5) .nil)))) (.seq (.ret (.bl false)) .skip) .skip) (.seq (.asg 6 (.call law_keeping (.cons (.var 1) (.cons (.var 2) .nil)))) (.seq (.asg 6 (.ite (.cmp .eq (.call law_draw (.cons (.var 1) (.cons (.int 2) .nil))) (.int 1)) (.tup (.cons (.ix (.var 3) (.int 0)) (.cons (.ix (.var 6) (.int 1)) .nil))) (.tup (.cons (.ix (.var 6) (.int 0)) (.cons (.ix (.var 3) (.int 1)) .nil))))) (.seq (.asg 7 (.call law_due (.cons (.var 2) (.cons (.var 6) (.cons (.call law_left (.cons (.var 2) (.cons (.var 6) .nil))) .nil))))) (.seq (.ifs (.not (.call law_same (.cons (.call cut_table (.cons (.var 2) (.cons (.var 6) .nil))) (.cons (.var 7) .nil)))) (.seq (.ret (.bl false)) .skip) .skip) (.seq (.asg 8 (.call law_states (.cons (.var 1) (.cons (.var 2) (.cons (.ix (.var 3) (.int 0)) .nil))))) (.seq (.asg 9 (.bin .add (.call law_rows (.cons (.var 1) (.cons (.var 2) (.cons (.var 3) (.cons (.var 4) .nil))))) (.lst (.cons (.var 7) (.cons (.ite (.cmp .eq (.call law_draw (.cons (.var 1) (.cons (.int 2) .nil))) (.int 1)) (.mth .popAt (.var 8) (.cons (.int 0) .nil)) (.var 5)) .nil))))) (.seq (.for_ (.one 10) (.iSeq (.bin .add (.var 9) (.lst (.cons (.call law_pop (.cons (.var 1) (.cons (.var 8) .nil))) (.cons (.call law_pop (.cons (.var 1) (.cons (.var 8) .nil))) (.cons (.ite (.cmp .eq (.ix (.var 5) (.int 0)) (.str "unsafe")) (.var 5) (.var 7)) .nil)))))) (.seq (.ifs (.not (.call law_same (.cons (.call judge_cut (.cons (.var 2) (.cons (.var 3) (.cons (.var 10) .nil)))) (.cons (.call law_takes (.cons (.var 2) (.cons (.var 3) (.cons (.var 10) .nil)))) .nil)))) (.seq (.ret (.bl false)) .skip) .skip) .skip)) (.seq (.for_ (.one 11) (.iSeq (.call law_odd (.cons (.var 1) (.cons (.var 2) (.cons (.ix (.var 3) (.int 0)) (.cons (.ite (.cmp .eq (.ix (.var 5) (.int 0)) (.str "unsafe")) (.ix (.var 5) (.int 1)) (.tup .nil)) .nil)))))) (.seq (.ifs (.not (.call law_same (.cons (.call judge_cut (.cons (.var 2) (.cons (.var 3) (.cons (.var 11) .nil)))) (.cons (.bl false) .nil)))) (.seq (.ret (.bl false)) .skip) .skip) .skip)) (.seq (.ifs (.cmp .eq (.call law_draw (.cons (.var 1) (.cons (.int 4) .nil))) (.int 1)) (.seq (.asg 12 (.comp [("steps", 13)] (.one 13) (.iSeq (.blt .sorted (.cons (.call law_orders .nil) .nil))) (.call law_is_safe (.cons (.var 2) (.cons (.tup (.cons (.var 13) (.cons (.ix (.var 3) (.int 1)) .nil))) .nil))) (.var 13))) (.seq (.ifs (.not (.call law_same (.cons (.call safe_orders (.cons (.var 2) (.cons (.ix (.var 3) (.int 1)) .nil))) (.cons (.blt .tuple (.cons (.var 12) .nil)) .nil)))) (.seq (.ret (.bl false)) .skip) .skip) .skip)) .skip) (.seq (.ret (.call law_same (.cons (.call cut_table (.cons (.var 2) (.cons (.var 3) .nil))) (.cons (.var 5) .nil)))) .skip))))))))))))))))
def TabT (C : CE) (f : Nat) : Prop := ∀ (M : Hm) (n : Nat) (st : List Str) (cls : List Int) (Q : QU), n ≤ 4 → st ∈ ordersL → ClOk n cls → (∀ u M', Sub M M' → DueU n st cls u → Q u M') → C f [.int n, kpT st cls] M Q
def Pap (n : Nat) (u : U) : Prop := PapS n u ∨ PapR' n u
theorem forL_id {step : U → (SU → Hm → Prop) → SU → Hm → Prop} {g : Hm → Prop} {fin : SU → Hm → Prop} (I : List U → List U → SU → Hm → Prop) (l : List U) {σ : SU} {M : Hm} (h0 : I [] l σ M)
    (h1 : ∀ don x rest σ M (k : SU → Hm → Prop), don ++ x :: rest = l → I don (x :: rest) σ M → (∀ σ' M', g M' → I (don ++ [x]) rest σ' M' → k σ' M') → step x k σ M)
    (h2 : ∀ σ M, I l [] σ M → fin σ M) : forL step g fin l σ M := by
  have := forL_by (enc := fun x => x) I l h0 h1 h2
  rwa [List.map_id'] at this
section
variable {C : CE} {nx bk ct : SU → Hm → Prop} {rt : QU} {M : Hm}
theorem law_ok {fsame ftab fdr fso ford fsafe fodd fj fpop ftk frows fst fdue fleft fkp fpk fbe : Nat}
    (hSE0 : SameE C fsame 0) (hSE4 : SameE C fsame 4) (hSL : SameL C fsame) (hT : TabT C ftab) (hD : DrawC C fdr) (hSo : SoC C fso) (hOr : OrdT C ford) (hSf : SafeC C fsafe) (hO : OddC C fodd) (hJS : JudgeS C fj) (hJU : JudgeU C fj) (hJO : JudgeO C fj)
    (hPop : PopXC C fpop) (hTS : TakesS C ftk) (hTU : TakesU C ftk) (hRo : RowsC C frows) (hSt : StatesC C fst) (hDu : DueC C fdue) (hLe : LeftC C fleft) (hK : KeepT C fkp) (hP : PickC C fpk) {ns : List Int}
    (hB : ∀ Q : QU, (∀ (p : Addr × Addr) M0, Sub M M0 → Dr M0 p → Q (.ref p.1) M0) → C fbe [.rol (ns.map U.int)] M Q) (hq : ∀ M', rt (.bl true) M') :
    wS C (B_law fsame ftab fdr fso ford fsafe fodd fj fpop ftk frows fst fdue fleft fkp fpk fbe) ⟨nx, rt, bk, ct⟩ (startU 14 [.rol (ns.map U.int)]) M := by
  have hlim : LIM = 100000 := rfl
  unfold B_law
  (repeat decreasing_trivial_pre_omega)
  refine hB _ fun p M0 s0 d0 => ?_
  (repeat decreasing_trivial_pre_omega)
  intro q hq0
  (repeat decreasing_trivial_pre_omega)
  refine hP _ p (.ref q) [.int 2, .int 1, .int 2, .int 4, .int 2, .int 3, .int 2] _ (d0.upd hq0) (.inr ⟨q, rfl, d0.ne hq0, um_same⟩) (by simp) (by simp) fun u M1 hu d1 fr1 => ?_
  obtain ⟨n, hn1, hn, rfl⟩ : ∃ n : Nat, 1 ≤ n ∧ n ≤ 4 ∧ u = .int n := by
    simp only [List.mem_cons, List.not_mem_nil, or_false] at hu
    rcases hu with rfl | rfl | rfl | rfl | rfl | rfl | rfl
    · exact ⟨2, by decide, by decide, rfl⟩
    · exact ⟨1, by decide, by decide, rfl⟩
    · exact ⟨2, by decide, by decide, rfl⟩
    · exact ⟨4, by decide, by decide, rfl⟩
    · exact ⟨2, by decide, by decide, rfl⟩
    · exact ⟨3, by decide, by decide, rfl⟩
    · exact ⟨2, by decide, by decide, rfl⟩
  clear hu fr1
  (repeat decreasing_trivial_pre_omega)
  refine hK M1 p n _ d1 hn fun st cls M2 ho hcl d2 _ => ?_
  (repeat decreasing_trivial_pre_omega)
  refine hLe M2 n st cls _ hn ho hcl fun l L M3 l0 s3 hl hL => ?_
  have nl : l ≠ p.1 := d2.ne l0
  have d3 := d2.sub s3
  (repeat decreasing_trivial_pre_omega)
  refine hDu M3 n st cls l L _ hn ho hl hL fun u M4 s4 hu => ?_
  have d4 := d3.sub s4
  have l4 := s4 _ _ hl
  (repeat decreasing_trivial_pre_omega)
  refine hT M4 n st cls _ hn ho hcl fun u' M5 s5 hu' => ?_
  rw [hu'.one hu]
  have d5 := d4.sub s5
  have l5 := s5 _ _ l4
  (repeat decreasing_trivial_pre_omega)
  refine hSE4 M5 u _ (okV_due hn ho hu) ?_
  clear hu' l4 hl d1 d2 d3 d4 s3 s4 s5
  unfold kpT
  (repeat decreasing_trivial_pre_omega)
  refine hK M5 p n _ d5 hn fun st2 cls2 M6 ho2 hc2 d6 fr6 => ?_
  have l6 := fr6.at_ nl l5
  clear l5 d5
  unfold kpT
  (repeat ((fail_if_success (with_reducible refine Pl.z_seq ?_)); decreasing_trivial_pre_omega))
  refine z_seq (z_cutR fun R eR => ?_)
  have key : ∀ st3 cls3 M7, st3 ∈ ordersL → ClOk n cls3 → Dr M7 p → M7 l = some (leftM L) → R [some (.rol (ns.map U.int)), some (.ref p.1), some (.int n), some (.tup [.tup (st.map U.str), .tup (cls.map U.int)]), some (.ref l), some u, some (.tup [.tup (st3.map U.str), .tup (cls3.map U.int)]), none, none, none, none, none, none, none] M7 := by
    intro st3 cls3 M7 ho3 hc3 d7 l7
    rw [eR]
    clear eR fr6 d6 l6 ho2 hc2
    (repeat decreasing_trivial_pre_omega)
    refine hLe M7 n st3 cls3 _ hn ho3 hc3 fun l' L' M8 l0' s8 hl' hL' => ?_
    (repeat decreasing_trivial_pre_omega)
    refine hDu M8 n st3 cls3 l' L' _ hn ho3 hl' hL' fun w M9 s9 hw => ?_
    (repeat decreasing_trivial_pre_omega)
    refine hT M9 n st3 cls3 _ hn ho3 hc3 fun w' M10 s10 hw' => ?_
    rw [hw'.one hw]
    have s11 := (s8.trans s9).trans s10
    have d10 := d7.sub s11
    have l10 := s11 _ _ l7
    (repeat decreasing_trivial_pre_omega)
    refine hSE4 M10 w _ (okV_due hn ho3 hw) ?_
    clear hw' s8 s9 s10 s11 d7 l7 hl' hL'
    (repeat decreasing_trivial_pre_omega)
    refine hSt M10 p n st _ d10 hn1 hn ho fun a us M11 a0 d11 fr11 ha hus hPa => ?_
    have l11 := fr11.at_ nl l10
    have na := d10.ne a0
    have na2 := d10.ne2 a0
    have hpu : Pap n u := due_pap hn ho hu
    have hpw : Pap n w := due_pap hn ho3 hw
    clear d10 fr11 a0 l10
    (repeat ((fail_if_success (with_reducible refine Pl.z_seq ?_)); decreasing_trivial_pre_omega))
    refine z_seq (z_cutR fun R2 eR2 => ?_)
    have key2 : ∀ b ps us' M12, Dr M12 p → M12 a = some (.lst us') → 5 ≤ us'.length → us'.length ≤ 6 → (∀ x ∈ us', PapS n x) → M12 b = some (.lst ps) → b ≠ p.1 → b ≠ a → ps.length ≤ 10 → (∀ x ∈ ps, Pap n x) →
        R2 [some (.rol (ns.map U.int)), some (.ref p.1), some (.int n), some (.tup [.tup (st.map U.str), .tup (cls.map U.int)]), some (.ref l), some u, some (.tup [.tup (st3.map U.str), .tup (cls3.map U.int)]), some w, some (.ref a), some (.ref b), none, none, none, none] M12 := by
      intro b ps us' M12 d12 ha12 g1 g2 hPa' hb12 nb hba gp hPp
      rw [eR2]
      clear eR2 ha d11 l11 M11 hPa
      (repeat ((fail_if_success (with_reducible refine Pl.z_seq ?_)); decreasing_trivial_pre_omega))
      refine z_seq (z_cutR fun R3 eR3 => ?_)
      have key3 : ∀ u10 M13, Dr M13 p → R3 [some (.rol (ns.map U.int)), some (.ref p.1), some (.int n), some (.tup [.tup (st.map U.str), .tup (cls.map U.int)]), some (.ref l), some u, some (.tup [.tup (st3.map U.str), .tup (cls3.map U.int)]), some w, some (.ref a), some (.ref b), u10, none, none, none] M13 := by
        intro u10 M13 d13
        rw [eR3]
        clear eR3 d12 ha12 hb12
        (repeat ((fail_if_success (with_reducible refine Pl.z_seq ?_)); decreasing_trivial_pre_omega))
        refine z_seq (z_cutR fun R4 eR4 => ?_)
        have key4 : ∀ u10 u11 M14, Dr M14 p → R4 [some (.rol (ns.map U.int)), some (.ref p.1), some (.int n), some (.tup [.tup (st.map U.str), .tup (cls.map U.int)]), some (.ref l), some u, some (.tup [.tup (st3.map U.str), .tup (cls3.map U.int)]), some w, some (.ref a), some (.ref b), u10, u11, none, none] M14 := by
          intro u10 u11 M14 d14
          rw [eR4]
          clear eR4 d13
          (repeat ((fail_if_success (with_reducible refine Pl.z_seq ?_)); decreasing_trivial_pre_omega))
          refine z_seq (z_cutR fun R5 eR5 => ?_)
          have key5 : ∀ u12 u13 M15, R5 [some (.rol (ns.map U.int)), some (.ref p.1), some (.int n), some (.tup [.tup (st.map U.str), .tup (cls.map U.int)]), some (.ref l), some u, some (.tup [.tup (st3.map U.str), .tup (cls3.map U.int)]), some w, some (.ref a), some (.ref b), u10, u11, u12, u13] M15 := by
            intro u12 u13 M15
            rw [eR5]
            (repeat decreasing_trivial_pre_omega)
            refine hT M15 n st cls _ hn ho hcl fun u' M16 s16 hu' => ?_
            rw [hu'.one hu]
            (repeat decreasing_trivial_pre_omega)
            refine hSE4 M16 u _ (okV_due hn ho hu) ?_
            exact hq _
          clear eR5
          (repeat decreasing_trivial_pre_omega)
          refine hD.lt _ p 4 _ d14 (by decide) (by decide) fun t M15 ht d15 _ => ?_
          (repeat decreasing_trivial_pre_omega)
          by_cases h : (t : Int) = 1
          · (repeat decreasing_trivial_pre_omega)
            refine hOr M15 _ fun q hq0 => ?_
            (repeat decreasing_trivial_pre_omega)
            refine f_sortL um_same sortOk_orders ?_
            rw [sort_orders]
            intro e he
            have e1 : (um (um M15 q (.lst (ordersL.map stT))) e (.lst (ordersL.map stT))) e = some (.lst (ordersL.map stT)) := um_same
            generalize um (um M15 q (.lst (ordersL.map stT))) e (.lst (ordersL.map stT)) = M16 at *
            (repeat decreasing_trivial_pre_omega)
            refine compL_by (enc := stT) (fun don rest acc M' => Sub M16 M' ∧ acc = (don.filter (safeB n cls)).map stT) ordersL ⟨Sub.refl _, rfl⟩ ?_ ?_
            · intro don st' rest acc M17 k ed ⟨s17, e2⟩ hk
              subst e2
              have ho' : st' ∈ ordersL := by rw [← ed]; simp
              have hdl : (don.filter (safeB n cls)).length ≤ 8 := by
                have h1 := List.length_filter_le (safeB n cls) don
                have h2 : (don ++ st' :: rest).length = 8 := by rw [ed]; rfl
                simp at h2
                omega
              (repeat decreasing_trivial_pre_omega)
              refine hSf M17 n st' cls _ hn ho' hcl fun bb M18 s18 hb => ?_
              have eb : bb = safeB n cls st' := Bool.eq_iff_iff.mpr (hb.trans (safeB_iff hn ho' hcl).symm)
              have e18 := (s17.trans s18) _ _ e1
              cases hbb : safeB n cls st' with
              | true =>
                rw [eb, hbb]
                (repeat decreasing_trivial_pre_omega)
                refine hk _ _ e18 (fun _ => by rw [List.length_map]; omega) ⟨s17.trans s18, ?_⟩
                rw [List.filter_append]
                simp [hbb]
              | false =>
                rw [eb, hbb]
                (repeat decreasing_trivial_pre_omega)
                refine hk _ _ e18 (fun z => by cases z) ⟨s17.trans s18, ?_⟩
                rw [List.filter_append]
                simp [hbb]
            · intro acc M17 ⟨s17, e2⟩
              subst e2
              intro f hf
              (repeat decreasing_trivial_pre_omega)
              refine hSo _ n cls _ hn hcl fun M18 s18 => ?_
              have f18 := s18 _ _ (um_same (a := f) (M := M17) (o := .lst ((ordersL.filter (safeB n cls)).map stT)))
              (repeat decreasing_trivial_pre_omega)
              refine hSL M18 (ordersL.filter (safeB n cls)) _ (Nat.le_trans (List.length_filter_le _ _) (by decide)) (fun st' h' => ord_len (List.mem_filter.mp h').1) ?_
              (repeat decreasing_trivial_pre_omega)
              exact key5 _ _ _
          · (repeat decreasing_trivial_pre_omega)
            exact key5 _ _ _
        clear eR4
        have hrow : dst n st cls S0 ≠ none → RowOk n (rowD n st cls S0) ∧ (rowD n st cls S0).length ≤ 2 := fun h => by
          cases e : dst n st cls S0 with
          | none => exact absurd e h
          | some m =>
            obtain ⟨h1, h2⟩ := rowD_ok m S0 e
            exact ⟨h1, by have := dst_le e; omega⟩
        rcases hu with ⟨h1, eu⟩ | ⟨h1, D, hD1, hD2, eu⟩
        · subst eu
          (repeat decreasing_trivial_pre_omega)
          refine hO M13 p n st (rowD n st cls S0) _ d13 hn1 hn ho (hrow h1).1 (by have := (hrow h1).2; omega) fun e items M14 e0 d14 fr14 he _ hodd => ?_
          (repeat decreasing_trivial_pre_omega)
          refine forL_id (fun don rest σ M' => (∃ u11, σ = [some (.rol (ns.map U.int)), some (.ref p.1), some (.int n), some (.tup [.tup (st.map U.str), .tup (cls.map U.int)]), some (.ref l), some (.tup [.str "unsafe", encRow (rowD n st cls S0)]), some (.tup [.tup (st3.map U.str), .tup (cls3.map U.int)]), some w, some (.ref a), some (.ref b), u10, u11, none, none]) ∧ Sub M14 M') items ⟨⟨none, rfl⟩, Sub.refl _⟩ ?_ ?_
          · intro don x rest σ M15 k ed ⟨⟨u11, e1⟩, s15⟩ hk
            subst e1
            (repeat decreasing_trivial_pre_omega)
            refine hJO M15 n st cls x _ (hodd x (by rw [← ed]; simp)) fun M16 s16 => ?_
            (repeat decreasing_trivial_pre_omega)
            refine hSE0 M16 (.bl false) _ rfl ?_
            (repeat decreasing_trivial_pre_omega)
            exact hk _ _ ((s15.trans s16) _ _ he) ⟨⟨_, rfl⟩, s15.trans s16⟩
          · intro σ M15 ⟨⟨u11, e1⟩, s15⟩
            subst e1
            exact key4 _ _ _ (d14.sub s15)
        · subst eu
          (repeat decreasing_trivial_pre_omega)
          refine hO M13 p n st [] _ d13 hn1 hn ho (fun _ z => nomatch z) (by simp) fun e items M14 e0 d14 fr14 he _ hodd => ?_
          (repeat decreasing_trivial_pre_omega)
          refine forL_id (fun don rest σ M' => (∃ u11, σ = [some (.rol (ns.map U.int)), some (.ref p.1), some (.int n), some (.tup [.tup (st.map U.str), .tup (cls.map U.int)]), some (.ref l), some (.tup [.str "safe", .tup (sortU (D.map encS2))]), some (.tup [.tup (st3.map U.str), .tup (cls3.map U.int)]), some w, some (.ref a), some (.ref b), u10, u11, none, none]) ∧ Sub M14 M') items ⟨⟨none, rfl⟩, Sub.refl _⟩ ?_ ?_
          · intro don x rest σ M15 k ed ⟨⟨u11, e1⟩, s15⟩ hk
            subst e1
            (repeat decreasing_trivial_pre_omega)
            refine hJO M15 n st cls x _ (hodd x (by rw [← ed]; simp)) fun M16 s16 => ?_
            (repeat decreasing_trivial_pre_omega)
            refine hSE0 M16 (.bl false) _ rfl ?_
            (repeat decreasing_trivial_pre_omega)
            exact hk _ _ ((s15.trans s16) _ _ he) ⟨⟨_, rfl⟩, s15.trans s16⟩
          · intro σ M15 ⟨⟨u11, e1⟩, s15⟩
            subst e1
            exact key4 _ _ _ (d14.sub s15)
      clear eR3
      (repeat decreasing_trivial_pre_omega)
      refine hPop M12 p a us' _ d12 ha12 (fun z => by rw [z] at g1; cases g1) (by omega) na na2 fun k1 hk1 M13 d13 f13 a13 => ?_
      have b13 := f13 b nb hba _ hb12
      have hx1 : Pap n us'[k1] := .inl (hPa' _ (List.getElem_mem hk1))
      have h5 : ∀ x ∈ us'.eraseIdx k1, PapS n x := fun x hx => hPa' x ((List.eraseIdx_sublist us' k1).subset hx)
      have gl : (us'.eraseIdx k1).length = us'.length - 1 := List.length_eraseIdx_of_lt hk1
      generalize us'[k1] = x1 at *
      generalize us'.eraseIdx k1 = us2 at *
      (repeat decreasing_trivial_pre_omega)
      refine hPop M13 p a us2 _ d13 a13 (fun z => by rw [z] at gl; simp at gl; omega) (by omega) na na2 fun k2 hk2 M14 d14 f14 a14 => ?_
      have b14 := f14 b nb hba _ b13
      have hx2 : Pap n us2[k2] := .inl (h5 _ (List.getElem_mem hk2))
      generalize us2[k2] = x2 at *
      clear d12 d13 f13 a13 b13 f14 a14 h5
      rcases hu with ⟨h1, eu⟩ | ⟨h1, D, hD1, hD2, eu⟩
      · subst eu
        (repeat decreasing_trivial_pre_omega)
        intro c hc
        refine o_addL (um_old b14 hc) um_same (by simp; omega) fun e he => ?_
        have d16 := (d14.upd (o := .lst [x1, x2, U.tup [.str "unsafe", encRow (rowD n st cls S0)]]) hc).upd (o := .lst (ps ++ [x1, x2, U.tup [.str "unsafe", encRow (rowD n st cls S0)]])) he
        have e16 : (um (um M14 c (.lst [x1, x2, U.tup [.str "unsafe", encRow (rowD n st cls S0)]])) e (.lst (ps ++ [x1, x2, U.tup [.str "unsafe", encRow (rowD n st cls S0)]]))) e = some (.lst (ps ++ [x1, x2, U.tup [.str "unsafe", encRow (rowD n st cls S0)]])) := um_same
        have hall : ∀ x ∈ ps ++ [x1, x2, U.tup [.str "unsafe", encRow (rowD n st cls S0)]], Pap n x := fun x hx => by
          rcases List.mem_append.mp hx with hx | hx
          · exact hPp x hx
          · simp only [List.mem_cons, List.not_mem_nil, or_false] at hx
            rcases hx with rfl | rfl | rfl
            · exact hx1
            · exact hx2
            · exact hpu
        generalize um (um M14 c (.lst [x1, x2, U.tup [.str "unsafe", encRow (rowD n st cls S0)]])) e (.lst (ps ++ [x1, x2, U.tup [.str "unsafe", encRow (rowD n st cls S0)]])) = M16 at *
        generalize ps ++ [x1, x2, U.tup [.str "unsafe", encRow (rowD n st cls S0)]] = items at *
        (repeat decreasing_trivial_pre_omega)
        refine forL_id (fun don rest σ M' => (∃ u10, σ = [some (.rol (ns.map U.int)), some (.ref p.1), some (.int n), some (.tup [.tup (st.map U.str), .tup (cls.map U.int)]), some (.ref l), some (.tup [.str "unsafe", encRow (rowD n st cls S0)]), some (.tup [.tup (st3.map U.str), .tup (cls3.map U.int)]), some w, some (.ref a), some (.ref b), u10, none, none, none]) ∧ Sub M16 M') items ⟨⟨none, rfl⟩, Sub.refl _⟩ ?_ ?_
        · intro don x rest σ M17 k ed ⟨⟨u10, e1⟩, s17⟩ hk
          subst e1
          have hpx := hall x (by rw [← ed]; simp)
          rcases hpx with ⟨X, nd, hl, hx, rfl⟩ | ⟨row, hr, hl, rfl⟩
          · (repeat decreasing_trivial_pre_omega)
            refine hJS M17 n st cls X _ hn (ord_len ho) hcl nd hl hx fun b1 M18 s18 hb1 => ?_
            (repeat decreasing_trivial_pre_omega)
            refine hTS M18 n st cls X _ hn ho hcl nd hl hx fun b2 M19 s19 hb2 => ?_
            have eb : b2 = b1 := Bool.eq_iff_iff.mpr (hb2.trans hb1.symm)
            subst eb
            (repeat decreasing_trivial_pre_omega)
            refine hSE0 M19 (.bl b2) _ rfl ?_
            (repeat decreasing_trivial_pre_omega)
            exact hk _ _ ((s17.trans (s18.trans s19)) _ _ e16) ⟨⟨_, rfl⟩, s17.trans (s18.trans s19)⟩
          · (repeat decreasing_trivial_pre_omega)
            refine hJU M17 n st cls row _ (ord_len ho) hcl (by omega) hr fun M18 s18 => ?_
            (repeat decreasing_trivial_pre_omega)
            refine hTU M18 n st cls row _ ho hcl hr fun M19 s19 => ?_
            (repeat decreasing_trivial_pre_omega)
            refine hSE0 M19 (.bl _) _ rfl ?_
            (repeat decreasing_trivial_pre_omega)
            exact hk _ _ ((s17.trans (s18.trans s19)) _ _ e16) ⟨⟨_, rfl⟩, s17.trans (s18.trans s19)⟩
        · intro σ M17 ⟨⟨u10, e1⟩, s17⟩
          subst e1
          exact key3 _ _ (d16.sub s17)
      · subst eu
        (repeat decreasing_trivial_pre_omega)
        intro c hc
        refine o_addL (um_old b14 hc) um_same (by simp; omega) fun e he => ?_
        have d16 := (d14.upd (o := .lst [x1, x2, w]) hc).upd (o := .lst (ps ++ [x1, x2, w])) he
        have e16 : (um (um M14 c (.lst [x1, x2, w])) e (.lst (ps ++ [x1, x2, w]))) e = some (.lst (ps ++ [x1, x2, w])) := um_same
        have hall : ∀ x ∈ ps ++ [x1, x2, w], Pap n x := fun x hx => by
          rcases List.mem_append.mp hx with hx | hx
          · exact hPp x hx
          · simp only [List.mem_cons, List.not_mem_nil, or_false] at hx
            rcases hx with rfl | rfl | rfl
            · exact hx1
            · exact hx2
            · exact hpw
        generalize um (um M14 c (.lst [x1, x2, w])) e (.lst (ps ++ [x1, x2, w])) = M16 at *
        generalize ps ++ [x1, x2, w] = items at *
        (repeat decreasing_trivial_pre_omega)
        refine forL_id (fun don rest σ M' => (∃ u10, σ = [some (.rol (ns.map U.int)), some (.ref p.1), some (.int n), some (.tup [.tup (st.map U.str), .tup (cls.map U.int)]), some (.ref l), some (.tup [.str "safe", .tup (sortU (D.map encS2))]), some (.tup [.tup (st3.map U.str), .tup (cls3.map U.int)]), some w, some (.ref a), some (.ref b), u10, none, none, none]) ∧ Sub M16 M') items ⟨⟨none, rfl⟩, Sub.refl _⟩ ?_ ?_
        · intro don x rest σ M17 k ed ⟨⟨u10, e1⟩, s17⟩ hk
          subst e1
          have hpx := hall x (by rw [← ed]; simp)
          rcases hpx with ⟨X, nd, hl, hx, rfl⟩ | ⟨row, hr, hl, rfl⟩
          · (repeat decreasing_trivial_pre_omega)
            refine hJS M17 n st cls X _ hn (ord_len ho) hcl nd hl hx fun b1 M18 s18 hb1 => ?_
            (repeat decreasing_trivial_pre_omega)
            refine hTS M18 n st cls X _ hn ho hcl nd hl hx fun b2 M19 s19 hb2 => ?_
            have eb : b2 = b1 := Bool.eq_iff_iff.mpr (hb2.trans hb1.symm)
            subst eb
            (repeat decreasing_trivial_pre_omega)
            refine hSE0 M19 (.bl b2) _ rfl ?_
            (repeat decreasing_trivial_pre_omega)
            exact hk _ _ ((s17.trans (s18.trans s19)) _ _ e16) ⟨⟨_, rfl⟩, s17.trans (s18.trans s19)⟩
          · (repeat decreasing_trivial_pre_omega)
            refine hJU M17 n st cls row _ (ord_len ho) hcl (by omega) hr fun M18 s18 => ?_
            (repeat decreasing_trivial_pre_omega)
            refine hTU M18 n st cls row _ ho hcl hr fun M19 s19 => ?_
            (repeat decreasing_trivial_pre_omega)
            refine hSE0 M19 (.bl _) _ rfl ?_
            (repeat decreasing_trivial_pre_omega)
            exact hk _ _ ((s17.trans (s18.trans s19)) _ _ e16) ⟨⟨_, rfl⟩, s17.trans (s18.trans s19)⟩
        · intro σ M17 ⟨⟨u10, e1⟩, s17⟩
          subst e1
          exact key3 _ _ (d16.sub s17)
    clear eR2
    (repeat decreasing_trivial_pre_omega)
    refine hRo M11 p n st cls l L _ d11 hn ho l11 hL nl fun b ps M12 b0 d12 fr12 hb hps hPb => ?_
    have nb := d11.ne b0
    have hba : b ≠ a := fun z => by rw [z, ha] at b0; cases b0
    have a12 := fr12.at_ na ha
    (repeat decreasing_trivial_pre_omega)
    refine hD.lt _ p 2 _ d12 (by decide) (by decide) fun t M13 ht d13 fr13 => ?_
    have a13 := fr13.at_ na a12
    have b13 := fr13.at_ nb hb
    clear d11 d12 fr12 fr13 a12 hb ha l11 b0
    have papers : ∀ z, Pap n z → ∀ x ∈ ps ++ [w, z], Pap n x := fun z hz x hx => by
      rcases List.mem_append.mp hx with hx | hx
      · exact .inr (hPb x hx)
      · simp only [List.mem_cons, List.not_mem_nil, or_false] at hx
        rcases hx with rfl | rfl
        · exact hpw
        · exact hz
    (repeat decreasing_trivial_pre_omega)
    by_cases h : (t : Int) = 1
    · match us, hus, hPa, a13 with
      | y :: us', hus, hPa, a13 =>
        simp only [List.length_cons] at hus
        (repeat decreasing_trivial_pre_omega)
        refine m_popAt (k := 0) (x := y) a13 (by simp; omega) (by unfold ixN; rw [if_pos (by decide), if_pos (by simp)]; rfl) rfl ?_
        have a14 : (um M13 a (.lst us')) a = some (.lst us') := um_same
        have b14 := um_oth (o := .lst us') hba b13
        have d14 := d13.upd2 (o := .lst us') na na2
        rw [show (y :: us').eraseIdx 0 = us' from rfl]
        generalize um M13 a (.lst us') = M14 at *
        (repeat decreasing_trivial_pre_omega)
        intro c hc
        refine o_addL (um_old b14 hc) um_same (by simp; omega) fun e he => ?_
        (repeat decreasing_trivial_pre_omega)
        refine key2 e _ us' _ ((d14.upd hc).upd he) (um_old (um_old a14 hc) he) (by omega) (by omega) (fun x hx => hPa x (List.mem_cons_of_mem _ hx)) um_same ((d14.upd hc).ne he) (ne_of_old (um_old a14 hc) he).symm (by simp; omega) (papers y (.inl (hPa y List.mem_cons_self)))
    · (repeat decreasing_trivial_pre_omega)
      intro c hc
      refine o_addL (um_old b13 hc) um_same (by simp; omega) fun e he => ?_
      (repeat decreasing_trivial_pre_omega)
      refine key2 e _ us _ ((d13.upd hc).upd he) (um_old (um_old a13 hc) he) (by omega) (by omega) hPa um_same ((d13.upd hc).ne he) (ne_of_old (um_old a13 hc) he).symm (by simp; omega) (papers u hpu)
  clear eR
  (repeat decreasing_trivial_pre_omega)
  refine hD.lt _ p 2 _ d6 (by decide) (by decide) fun t M7 ht d7 fr7 => ?_
  have l7 := fr7.at_ nl l6
  (repeat decreasing_trivial_pre_omega)
  by_cases h : (t : Int) = 1
  · (repeat decreasing_trivial_pre_omega)
    exact key st cls2 M7 ho hc2 d7 l7
  · (repeat decreasing_trivial_pre_omega)
    exact key st2 cls M7 ho2 hcl d7 l7
end
end Pl.Tq

set_option maxHeartbeats 1000000
/-! k80: joined -/
namespace K80
open PySem L2 Pl K79
def depth : Nat := 40
theorem c_isintg (k : Nat) : Tq.IntG (Cs T (k + 1)) 0 := fun M u Q h hq => cs0 rfl (Tq.is_int_g h ⟨M, Pl.Sub.refl _, hq⟩)
theorem c_cont (k : Nat) : Tq.ContG (Cs T (k + 2)) 1 := fun M n u Q h hq => cs1 rfl (Tq.is_content_ok (c_isintg k) h ⟨M, Pl.Sub.refl _, hq⟩)
theorem c_done (k : Nat) : DoneC (Cs T (k + 1)) 2 := fun M m cut Q hq => cs2 rfl (done_ok ⟨M, Pl.Sub.refl _, hq⟩)
theorem c_smw (k : Nat) : Tq.SmWC (Cs T (k + 1)) 3 := fun st c h1 M Q hq => cs3 rfl (Tq.small_writes_ok h1 fun M' s => ⟨M', Pl.Sub.refl _, hq M' s⟩)
theorem c_smwU (k : Nat) : SmWC (Cs T (k + 1)) 3 := fun st c h1 M Q hq => cs3 rfl (small_writes_ok h1 fun M' s => ⟨M', Pl.Sub.refl _, hq M' s⟩)
theorem c_smstep (k : Nat) : Tq.SmStepC (Cs T (k + 2)) 4 := fun st s sm h1 M Q hq => cs4 rfl (Tq.small_step_ok (c_done k) (c_smw k) h1 fun M' s => ⟨M', Pl.Sub.refl _, hq M' s⟩)
theorem c_smstepU (k : Nat) : SmStepC (Cs T (k + 2)) 4 := fun st s sm h1 M Q hq => cs4 rfl (small_step_ok (c_done k) (c_smwU k) h1 fun M' s => ⟨M', Pl.Sub.refl _, hq M' s⟩)
theorem c_iswrong (k : Nat) : WrongC (Cs T (k + 1)) 5 := fun n cls s h1 h2 M Q hq => cs5 rfl (is_wrong_ok h1 h2 fun M' s => ⟨M', Pl.Sub.refl _, hq M' s⟩)
theorem c_cuts (k : Nat) : CutsC (Cs T (k + 1)) 6 := fun m h1 M Q hq => cs6 rfl (cuts_ok h1 fun M' s => ⟨M', Pl.Sub.refl _, hq M' s⟩)
theorem c_smalls (k : Nat) : Tq.SmallsC (Cs T (k + 2)) 7 := fun n st h1 h2 M Q hq => cs7 rfl (Tq.small_stores_ok (c_cuts k) (c_smw k) h1 h2 fun M' s => ⟨M', Pl.Sub.refl _, hq M' s⟩)
theorem c_smallsU (k : Nat) : SmallsC (Cs T (k + 2)) 7 := fun n st h1 h2 M Q hq => cs7 rfl (small_stores_ok (c_cuts k) (c_smwU k) h1 h2 fun M' s => ⟨M', Pl.Sub.refl _, hq M' s⟩)
theorem c_smallst (k : Nat) : Tq.StG (Cs T (k + 2)) 8 := fun M n u Q h hq => cs8 rfl (Tq.is_small_state_ok (c_isintg k) h ⟨M, Pl.Sub.refl _, hq⟩)
theorem c_cutg (k : Nat) : Tq.CutG (Cs T (k + 2)) 9 := fun M u Q h hq => cs9 rfl (Tq.is_cut_ok (c_isintg k) h ⟨M, Pl.Sub.refl _, hq⟩)
theorem c_smstore (k : Nat) : Tq.SmG (Cs T (k + 3)) 10 := fun M n u Q h hq => cs10 rfl (Tq.is_small_store_ok (c_cutg k) (c_cont k) h ⟨M, Pl.Sub.refl _, hq⟩)
theorem c_tabT (k : Nat) : Tq.TabT (Cs T (k + 3)) 11 := fun M n st cls Q h1 h2 h3 hq => cs11 rfl (Tq.cut_table_ok (c_iswrong (k + 1)) (c_smstep k) (c_smalls k) h1 (ord_len h2) h3
  (fun D M' s nd hD hs => ⟨M', Pl.Sub.refl _, hq _ M' s (.inr ⟨safe_none hs, D, nd, hD, rfl⟩)⟩) fun M' s hd => ⟨M', Pl.Sub.refl _, hq _ M' s (.inl ⟨hd, rfl⟩)⟩)
theorem c_tabU (k : Nat) : Tq.TabU (Cs T (k + 3)) 11 := fun M n st cls Q h1 h2 h3 qs qu => cs11 rfl (cut_table_ok (c_iswrong (k + 1)) (c_smstepU k) (c_smallsU k) h1 h2 h3 (fun us M' s h => ⟨M', Pl.Sub.refl _, qs us M' s h⟩) fun row M' s h => ⟨M', Pl.Sub.refl _, qu row M' s h⟩)
theorem c_closed (k : Nat) : Tq.ClosedC (Cs T (k + 3)) 12 := fun M n st X Q h1 h2 h3 h4 hq => cs12 rfl (Tq.are_closed_ok (c_smstep k) (c_smalls k) h1 h2 h3 h4 fun b M' s h => ⟨M', Pl.Sub.refl _, hq b M' s h⟩)
theorem c_shows (k : Nat) : Tq.ShowsC (Cs T (k + 4)) 13 := fun M n st cls X Q h1 h2 h3 h4 h5 h6 hq => cs13 rfl (Tq.shows_safe_ok (c_closed k) (c_iswrong (k + 2)) (c_smallst (k + 1)) h1 h2 h3 h4 h5 h6 fun b M' s h => ⟨M', Pl.Sub.refl _, hq b M' s h⟩)
theorem c_showsO (k : Nat) : Tq.ShowsOdd (Cs T (k + 4)) 13 := fun M n st cls l Q h1 h2 h3 hq => cs13 rfl (Tq.shows_safe_odd (c_smallst (k + 1)) rfl h1 h2 h3 fun M' s => ⟨M', Pl.Sub.refl _, hq M' s⟩)
theorem c_uns (k : Nat) : Tq.UnsC (Cs T (k + 4)) 14 := fun M n st cls row Q h1 h2 h3 h4 hq => cs14 rfl (Tq.shows_unsafe_ok (c_iswrong (k + 2)) (c_smstep (k + 1)) (c_smstore k) h1 h2 h3 h4 fun M' s => ⟨M', Pl.Sub.refl _, hq M' s⟩)
theorem c_unsO (k : Nat) : Tq.UnsOdd (Cs T (k + 4)) 14 := fun M n st cls l Q h1 h2 h3 hq => cs14 rfl (Tq.shows_unsafe_odd (c_smstore k) rfl h1 h2 h3 fun M' s => ⟨M', Pl.Sub.refl _, hq M' s⟩)
theorem c_judgeS (k : Nat) : Tq.JudgeS (Cs T (k + 5)) 15 := fun M n st cls X Q h1 h2 h3 h4 h5 h6 hq => cs15 rfl (Tq.judge_s (c_shows k) h1 h2 h3 h4 h5 h6 fun b M' s h => ⟨M', Pl.Sub.refl _, hq b M' s h⟩)
theorem c_judgeU (k : Nat) : Tq.JudgeU (Cs T (k + 5)) 15 := fun M n st cls row Q h1 h2 h3 h4 hq => cs15 rfl (Tq.judge_u (c_uns k) h1 h2 h3 h4 fun M' s => ⟨M', Pl.Sub.refl _, hq M' s⟩)
theorem c_judgeO (k : Nat) : Tq.JudgeO (Cs T (k + 5)) 15 := fun M n st cls u Q h1 hq => cs15 rfl (Tq.judge_odd (c_unsO k) (c_showsO k) h1 fun M' s => ⟨M', Pl.Sub.refl _, hq M' s⟩)
theorem c_so (k : Nat) : Tq.SoC (Cs T (k + 4)) 16 := fun M n cls Q h1 h2 hq => cs16 rfl (Tq.safe_orders_ok (c_tabU k) h1 h2 fun M' s => ⟨M', Pl.Sub.refl _, hq M' s⟩)
theorem c_draw (k : Nat) : DrawC (Cs T (k + 1)) 18 := fun M p many Q d h1 h2 hq => cs18 rfl (draw_ok d h1 h2 fun r M' r0 r1 d' fr => ⟨M', Pl.Sub.refl _, hq r M' r0 r1 d' (Fr.of_eq fr)⟩)
theorem c_pick (k : Nat) : PickC (Cs T (k + 2)) 19 := fun M p row us Q d hr h1 h2 hq => cs19 rfl (pick_ok (c_draw k) d hr h1 h2 fun x M' hx d' fr => ⟨M', Pl.Sub.refl _, hq x M' hx d' fr⟩)
theorem c_popx (k : Nat) : PopXC (Cs T (k + 2)) 20 := fun M p r us Q d h1 h2 h3 n1 n2 hq => cs20 rfl (law_popx_ok (c_draw k) d h1 h2 h3 n1 n2 fun i hi M' a1 a2 a3 => ⟨M', Pl.Sub.refl _, hq i hi M' a1 a2 a3⟩)
theorem c_isint (k : Nat) : IsIntC (Cs T (k + 1)) 21 := fun M i Q hq => cs21 rfl (is_int_ok ⟨M, Pl.Sub.refl _, hq⟩)
theorem c_same0 : ∀ (n k : Nat), SameE (Cs T (k + n + 2)) 22 n
  | 0, k => fun M u Q h hq => cs22 rfl (sameE_ok (c_isint k) (fun i e => by cases e) h ⟨M, Pl.Sub.refl _, hq⟩)
  | n + 1, k => fun M u Q h hq => cs22 rfl (sameE_ok (n := n + 1) (c_isint (k + n + 1)) (fun i e => by cases e; exact c_same0 n k) h ⟨M, Pl.Sub.refl _, hq⟩)
theorem c_same (n k : Nat) (h : n ≤ 5) : SameE (Cs T (k + 7)) 22 n := by
  have := c_same0 n (k + (5 - n))
  rwa [show k + (5 - n) + n + 2 = k + 7 by omega] at this
theorem c_samedt (k : Nat) : Tq.SameDT (Cs T (k + 8)) 22 := fun M st Q h1 hq => cs22 rfl (Tq.sameDT_ok (c_isint (k + 6)) (c_same 0 k (by decide)) h1 ⟨M, Pl.Sub.refl _, hq⟩)
theorem c_samel (k : Nat) : Tq.SameL (Cs T (k + 9)) 22 := fun M L Q h1 h2 hq => cs22 rfl (Tq.sameL_ok (c_isint (k + 7)) (c_samedt k) h1 h2 ⟨M, Pl.Sub.refl _, hq⟩)
theorem c_orders (k : Nat) : Tq.OrdT (Cs T (k + 1)) 23 := fun M Q hq => cs23 rfl (Tq.orders_ok fun q hq0 => ⟨_, Pl.Sub.refl _, hq q hq0⟩)
theorem c_keeping (k : Nat) : Tq.KeepT (Cs T (k + 3)) 24 := fun M p n Q d h hq => cs24 rfl (Tq.law_keeping_ok (c_draw (k + 1)) (c_pick k) (c_orders (k + 1)) d h fun st cls M' a1 a2 a3 a4 => ⟨M', Pl.Sub.refl _, hq st cls M' a1 a2 a3 a4⟩)
theorem c_lsmalls (k : Nat) : Tq.LSmallsC (Cs T (k + 1)) 25 := fun M n st Q h1 h2 hq => cs25 rfl (Tq.law_smalls_ok h1 h2 fun q M' a1 a2 a3 => ⟨M', Pl.Sub.refl _, hq q M' a1 a2 a3⟩)
theorem c_eff (k : Nat) : Tq.EffC (Cs T (k + 1)) 26 := fun st sm h1 h2 M Q hq => cs26 rfl (Tq.law_effect_ok h1 h2 fun M' s => ⟨M', Pl.Sub.refl _, hq M' s⟩)
theorem c_after (k : Nat) : AfterC (Cs T (k + 1)) 27 := fun M s e Q hq => cs27 rfl (law_after_ok ⟨M, Pl.Sub.refl _, hq⟩)
theorem c_lwrong (k : Nat) : LWrongC (Cs T (k + 1)) 28 := fun M n cls s Q h1 h2 hq => cs28 rfl (law_wrong_ok h1 h2 ⟨M, Pl.Sub.refl _, hq⟩)
theorem c_reach (k : Nat) : ReachC (Cs T (k + 2)) 29 := fun M E S G ps pe Q h1 h2 h3 h4 h5 hq => cs29 rfl (law_reached_ok (c_after k) h1 h2 h3 h4 h5 fun q D M' a1 a2 a3 a4 a5 a6 => ⟨M', Pl.Sub.refl _, hq q D M' a1 a2 a3 a4 a5 a6⟩)
theorem c_effs (k : Nat) : Tq.EffsC (Cs T (k + 2)) 30 := fun M n st Q h1 h2 hq => cs30 rfl (Tq.law_effects_ok (c_lsmalls k) (c_eff k) h1 h2 fun q E M' a1 a2 a3 a4 a5 => ⟨M', Pl.Sub.refl _, hq q E M' a1 a2 a3 a4 a5⟩)
theorem c_safe (k : Nat) : Tq.SafeC (Cs T (k + 3)) 31 := fun M n st cls Q h1 h2 h3 hq => cs31 rfl (Tq.law_is_safe_ok (c_reach k) (c_effs k) (c_lwrong (k + 1)) h1 h2 h3 fun b M' a1 a2 => ⟨M', Pl.Sub.refl _, hq b M' a1 a2⟩)
theorem c_left (k : Nat) : Tq.LeftC (Cs T (k + 3)) 32 := fun M n st cls Q h1 h2 h3 hq => cs32 rfl (Tq.law_left_ok (c_after (k + 1)) (c_lwrong (k + 1)) (c_reach k) (c_effs k) h1 h2 h3 fun p L M' a1 a2 a3 a4 => ⟨M', Pl.Sub.refl _, hq p L M' a1 a2 a3 a4⟩)
theorem c_rowf (k : Nat) : Tq.RowFromC (Cs T (k + 2)) 33 := fun M n st cls p L s m Q h1 h2 h3 h4 h5 h6 hq => cs33 rfl (Tq.law_row_from_ok (c_after k) (c_eff k) (c_lsmalls k) h1 h2 h3 h4 h5 h6 fun M' s => ⟨M', Pl.Sub.refl _, hq M' s⟩)
theorem c_due (k : Nat) : Tq.DueC (Cs T (k + 3)) 34 := fun M n st cls p L Q h1 h2 h3 h4 hq => cs34 rfl (Tq.law_due_ok (c_reach k) (c_effs k) (c_rowf k) h1 h2 h3 h4 fun u M' a1 a2 => ⟨M', Pl.Sub.refl _, hq u M' a1 a2⟩)
theorem c_walked (k : Nat) : Tq.WalkedC (Cs T (k + 2)) 35 := fun st cls row h1 h2 M Q hq => cs35 rfl (Tq.law_walked_ok (cls := cls) (c_after k) (c_eff k) h1 h2 fun M' s => ⟨M', Pl.Sub.refl _, hq M' s⟩)
theorem c_walkedL (k : Nat) : Tq.WalkedL (Cs T (k + 2)) 35 := fun M st cls row q Q h1 h2 h3 hq => cs35 rfl (Tq.law_walkedL_ok (cls := cls) (c_after k) (c_eff k) h1 h2 h3 fun M' s => ⟨M', Pl.Sub.refl _, hq M' s⟩)
theorem c_takesU (k : Nat) : Tq.TakesU (Cs T (k + 3)) 36 := fun M n st cls row Q h1 h2 h3 hq => cs36 rfl (Tq.law_takes_u (c_lwrong (k + 1)) (c_walked k) h1 h2 h3 fun M' s => ⟨M', Pl.Sub.refl _, hq M' s⟩)
theorem c_takesS (k : Nat) : Tq.TakesS (Cs T (k + 3)) 36 := fun M n st cls X Q h1 h2 h3 h4 h5 h6 hq => cs36 rfl (Tq.law_takes_s (c_after (k + 1)) (c_lwrong (k + 1)) (c_effs k) h1 h2 h3 h4 h5 h6 fun b M' a1 a2 => ⟨M', Pl.Sub.refl _, hq b M' a1 a2⟩)
theorem c_turned (k : Nat) : Tq.TurnedC (Cs T (k + 2)) 37 := fun M p q X Q h1 h2 h3 h4 h5 hq => cs37 rfl (Tq.law_turned_ok (c_draw k) h1 h2 h3 h4 h5 fun X' M' a1 a2 a3 => ⟨M', Pl.Sub.refl _, hq X' M' a1 a2 a3⟩)
theorem c_states (k : Nat) : Tq.StatesC (Cs T (k + 3)) 38 := fun M p n st Q h1 h2 h3 h4 hq => cs38 rfl (Tq.law_states_ok (c_turned k) (c_reach k) (c_pick k) (c_draw (k + 1)) (c_effs k) h1 h2 h3 h4 fun a us M' a1 a2 a3 a4 a5 a6 => ⟨M', Pl.Sub.refl _, hq a us M' a1 a2 a3 a4 a5 a6⟩)
theorem c_rows (k : Nat) : Tq.RowsC (Cs T (k + 3)) 39 := fun M p n st cls l L Q h1 h2 h3 h4 h5 h6 hq => cs39 rfl (Tq.law_rows_ok (c_pick k) (c_rowf k) (c_walkedL k) (c_draw (k + 1)) h1 h2 h3 h4 h5 h6 fun a us M' a1 a2 a3 a4 a5 a6 => ⟨M', Pl.Sub.refl _, hq a us M' a1 a2 a3 a4 a5 a6⟩)
theorem c_odd (k : Nat) : Tq.OddC (Cs T (k + 3)) 40 := fun M p n st row Q h1 h2 h3 h4 h5 h6 hq => cs40 rfl (Tq.law_odd_ok (c_draw (k + 1)) (c_pick k) (c_reach k) (c_effs k) h1 h2 h3 h4 h5 h6 fun a us M' a1 a2 a3 a4 a5 a6 => ⟨M', Pl.Sub.refl _, hq a us M' a1 a2 a3 a4 a5 a6⟩)
theorem law_true (ns : List Int) (hns : ns.length ≤ 63) : Cs T depth 41 [.rol (ns.map U.int)] (fun _ => none) (fun u _ => u = .bl true) :=
  cs41 (k := 39) rfl (Tq.law_ok (c_same 0 32 (by decide)) (c_same 4 32 (by decide)) (c_samel 30) (c_tabT 36) (c_draw 38) (c_so 35) (c_orders 38) (c_safe 36) (c_odd 36) (c_judgeS 34) (c_judgeU 34) (c_judgeO 34) (c_popx 37) (c_takesS 36) (c_takesU 36) (c_rows 36) (c_states 36) (c_due 36) (c_left 36) (c_keeping 36) (c_pick 37)
    (fun Q hq => cs17 (k := 38) rfl (begin_ok hns fun p M0 s0 d0 => ⟨M0, Pl.Sub.refl _, hq p M0 s0 d0⟩)) fun M' => ⟨_, Pl.Sub.refl _, rfl⟩)
end K80

open PySem PySem.W PySem.Calls PyProof.Rows
theorem PySem.Challenge.cw_holdstill_k80_whole_cut_tables_holds : PySem.Challenge.rw_holdstill_k80_whole_cut_tables.Holds := by
  w_on; o_law
  refine HandSHeadRun.head_any (r := OpenLaw.row PySem.Challenge.rw_holdstill_k80_whole_cut_tables) (q := view (OpenLaw.row PySem.Challenge.rw_holdstill_k80_whole_cut_tables).prog [50]) (H := K80.hk) (ob := K80.ob) (M := 9000) (loose := K80.loose) (d := HandSHeadRun.topDef (OpenLaw.row PySem.Challenge.rw_holdstill_k80_whole_cut_tables).prog 50) (kwd := []) K80.ob_eq
    (by kernel_rfl) (fun s => by kernel_rfl) K80.run (by kernel_rfl) (by kernel_rfl) (by kernel_rfl) (by rfl) (by first | assumption | decide +kernel) (by decide +kernel) ⟨rfl, rfl, rfl, rfl, rfl, by decide +kernel⟩ ?hw ?hc
  case hw => w_witness2
  case hc =>
    refine L2.walk_ofE (l := PySem.Challenge.rw_holdstill_k80_whole_cut_tables) (n := 63) (k := 2 * K80.depth) (x := "script") (CX := L2.CX0) rfl (by decide) (by kernel_rfl) ⟨rfl, by decide, by decide⟩ ?F (fun _ _ _ _ z => z)
    intro w mg fa h Y G hmg0
    obtain ⟨K, KX, c⟩ := Y
    have hmg : mg ("law" : PySem.Str) = some (.ref fa) := by
      have e : (HandSHeadRun.topDef (OpenLaw.row PySem.Challenge.rw_holdstill_k80_whole_cut_tables).prog 50).name = ("law" : PySem.Str) := by kernel_rfl
      rw [← e]
      exact hmg0
    obtain ⟨fd, sp, hb, hs, hF⟩ := Pl.law_ok (P := (PySem.Challenge.rw_holdstill_k80_whole_cut_tables).prog) (wd := w) (n := 41) (k := K80.depth) (dl := K80.d41) K80.ck K80.bd rfl rfl rfl rfl KX G hmg c K80.law_true
    exact ⟨K, fd, sp, KX, hb, hs, hF⟩

