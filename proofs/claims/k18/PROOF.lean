import PyProof.Rows.All
import HandS.ForMost
import HandS.ForExc
import HandS.Wide
import HandS.IsInst
import HandS.TupAny
import HandS.Deep
import HandS.Text
import HandS.Iter
import HandS.SortInts
import HandS.NamedTupSort
import HandS.TupSets
import HandS.NoneIn
import KE.SortKeyed
import KE.DataCmp
import HandS.DictComp
import HandS.DictTup
import HandS.TupLen
import PyProof.DictMoreH
import HandS.Conv
import HandS.Defaults
import HandS.Style
import HandS.Replace
import KE.GoesNew
import KE.GoesMore
import HandS.SetKeys
import HandS.ExcInit
import HandS.ExcField
import HandS.ExcIs
import HandS.TryOnly
import KE.KExcIs
import KE.DataMinMax
import Wide.All
import OpenK.AllK
import Wide.FinOn
import PySem.Challenge.RW_takenapart_k18_whole_likeness
set_option Elab.async false
set_option linter.all false
set_option maxRecDepth 100000
set_option maxHeartbeats 4000000
/-! The deep layer: values as trees, a store of owned objects, readings over them. -/
namespace DL
open PySem PySem.Spec PyProof.Rows L2
/-- a value as a tree: tuples and settled lists, dicts, instances by value; ref: an object of the store, a def, a class -/
inductive D where
  | non | bl (b : Bool) | int (i : Int) | str (x : Str) | ref (a : Addr) | ty (n : String)
  | tup (xs : List D) | lst (xs : List D)
  | obj (C : Addr) (ns : List Str) (xs : List D)
  | dK (ks : List Key) (xs : List D)
  | dT (ks : List (List Key)) (xs : List D)
/-- what the store holds -/
inductive O where
  | lst (xs : List D)
  | obj (C : Addr) (ns : List Str) (xs : List D)
  | dK (ks : List Key) (xs : List D)
  | dT (ks : List (List Key)) (xs : List D)
  /-- a set of tuples of ints; Φ: what is true of its object -/
  | ts (Φ : Addr → List (Addr × List Int) → Heap → Prop) (cs : List (List Int))
abbrev Sto := Addr → Option O
/-- the written part, and the lists that no tree may tell of (those that a comprehension is making) -/
structure Kz where
  K : PySem.W.Frag
  Z : Addr → Prop
abbrev DEnv := List (Option D)
/-- a settled list: no object of the store's, or one of the module's -/
def LsT (K : Kz) (S : Sto) (H : Hp) (a : Addr) (xs : List V) : Prop :=
  (S a = none ∧ ¬ K.Z a ∧ Rd H a (.lst xs)) ∨
    ∃ (o : Obj) (its : Array Value) (n : Nat), K.K.lookup a = some o ∧ o.cls = .type "list" ∧ o.dict = none ∧ o.data = .seq its n ∧ its.size ≤ sizeLine ∧ Vals xs its.toList
theorem LsT.sq {K : Kz} {S : Sto} {H : Hp} {a : Addr} {xs : List V} (h : LsT K S H a xs) : SqL K.K H a xs := h.elim (fun h => .inl h.2.2) .inr
/-- a tuple: one that was made, or one of the module's -/
def TpT (K : PySem.W.Frag) (H : Hp) (a : Addr) (xs : List V) : Prop :=
  H a = some (.tup xs) ∨ ∃ (o : Obj) (its : Array Value) (n : Nat), K.lookup a = some o ∧ o.cls = .type "tuple" ∧ o.data = .seq its n ∧ its.size ≤ sizeLine ∧ Vals xs its.toList
theorem TpT.sq {K : PySem.W.Frag} {H : Hp} {a : Addr} {xs : List V} (h : TpT K H a xs) : SqT K H a xs := h.elim (fun h => .inl (.inl h)) .inr
section
variable (K : Kz) (S : Sto) (H : Hp)
mutual
inductive Rep : D → V → Prop
  | non : Rep .non .non
  | bl (b : Bool) : Rep (.bl b) (.bl b)
  | int (i : Int) : Rep (.int i) (.int i)
  | str (x : Str) : Rep (.str x) (.str x)
  | ref (a : Addr) : Rep (.ref a) (.ref a)
  | ty (n : String) : Rep (.ty n) (.ty n)
  | tup {a : Addr} {vs : List V} {ds : List D} : TpT K.K H a vs → vs.length ≤ sizeLine → RepL ds vs → Rep (.tup ds) (.ref a)
  | lst {a : Addr} {vs : List V} {ds : List D} : LsT K S H a vs → vs.length ≤ sizeLine → RepL ds vs → Rep (.lst ds) (.ref a)
  | obj {a C dx : Addr} {ns : List Str} {vs : List V} {ds : List D} : S a = none → H a = some (.ins C dx (ns.zip vs)) → ns.length = vs.length → RepL ds vs → Rep (.obj C ns ds) (.ref a)
  | dK {a : Addr} {ks : List Key} {vs : List V} {ds : List D} : S a = none → H a = some (.dK (ks.zip vs)) → ks.length = vs.length → RepL ds vs → Rep (.dK ks ds) (.ref a)
  | dT {a : Addr} {ks : List (List Key)} {vs : List V} {ds : List D} : S a = none → H a = some (.dT (ks.zip vs)) → ks.length = vs.length → RepL ds vs → Rep (.dT ks ds) (.ref a)
inductive RepL : List D → List V → Prop
  | nil : RepL [] []
  | cons {d : D} {v : V} {ds : List D} {vs : List V} : Rep d v → RepL ds vs → RepL (d :: ds) (v :: vs)
end
def RepO (a : Addr) : O → Prop
  | .lst ds => ∃ vs, H a = some (.lst vs) ∧ vs.length ≤ sizeLine ∧ RepL K S H ds vs
  | .obj C ns ds => ∃ dx vs, H a = some (.ins C dx (ns.zip vs)) ∧ ns.length = vs.length ∧ RepL K S H ds vs
  | .dK ks ds => ∃ vs, H a = some (.dK (ks.zip vs)) ∧ ks.length = vs.length ∧ RepL K S H ds vs
  | .dT ks ds => ∃ vs, H a = some (.dT (ks.zip vs)) ∧ ks.length = vs.length ∧ RepL K S H ds vs
  | .ts Φ cs => ∃ L, H a = some (.ext (Φ a L)) ∧ (L.map (·.2)).Perm cs ∧ ∀ p ∈ L, TpT K.K H p.1 (p.2.map V.int)
/-- the store is held -/
structure Rel : Prop where
  get : ∀ a o, S a = some o → RepO K S H a o
  hid : ∀ a, K.Z a → H a ≠ none ∧ S a = none
end
/-- all that stood and is not the store's stands -/
def Ext (S : Sto) (H : Hp) (S' : Sto) (H' : Hp) : Prop := ∀ a o, H a = some o → S a = none → H' a = some o ∧ S' a = none
theorem Ext.refl {S : Sto} {H : Hp} : Ext S H S H := fun _ _ h n => ⟨h, n⟩
theorem Ext.trans {S S1 S2 : Sto} {H H1 H2 : Hp} (x : Ext S H S1 H1) (y : Ext S1 H1 S2 H2) : Ext S H S2 H2 := fun a o h n =>
  let ⟨h1, n1⟩ := x a o h n
  y a o h1 n1
/-- what no store owns -/
def fixd : HO → Bool
  | .lst _ => false
  | .dK _ => false
  | .dT _ => false
  | .ins _ _ _ => false
  | .ext _ => false
  | _ => true
section
variable {K : Kz} {S S' : Sto} {H H' : Hp}
theorem Rel.free (R : Rel K S H) {a : Addr} {u : HO} (h : H a = some u) (f : fixd u = true) : S a = none := by
  cases e : S a with
  | none => rfl
  | some o =>
    exfalso
    have q := R.get a o e
    cases o with
    | lst ds => obtain ⟨vs, q, _⟩ := q; rw [h] at q; cases q; cases f
    | obj C ns ds => obtain ⟨dx, vs, q, _⟩ := q; rw [h] at q; cases q; cases f
    | dK ks ds => obtain ⟨vs, q, _⟩ := q; rw [h] at q; cases q; cases f
    | dT ks ds => obtain ⟨vs, q, _⟩ := q; rw [h] at q; cases q; cases f
    | ts Φ cs => obtain ⟨L, q, _⟩ := q; rw [h] at q; cases q; cases f
theorem Rel.some (R : Rel K S H) {a : Addr} {o : O} (h : S a = .some o) : ∃ u, H a = .some u := by
  have q := R.get a o h
  cases o with
  | lst ds => obtain ⟨vs, q, _⟩ := q; exact ⟨_, q⟩
  | obj C ns ds => obtain ⟨dx, vs, q, _⟩ := q; exact ⟨_, q⟩
  | dK ks ds => obtain ⟨vs, q, _⟩ := q; exact ⟨_, q⟩
  | dT ks ds => obtain ⟨vs, q, _⟩ := q; exact ⟨_, q⟩
  | ts Φ cs => obtain ⟨L, q, _⟩ := q; exact ⟨_, q⟩
theorem Rel.fresh (R : Rel K S H) {a : Addr} (h : H a = none) : S a = none := by
  cases e : S a with
  | none => rfl
  | some o => obtain ⟨u, q⟩ := R.some e; rw [h] at q; cases q
/-- what stands for ever is not the store's -/
def Free (S : Sto) (H : Hp) : Prop := ∀ a u, H a = Option.some u → fixd u = true → S a = none
theorem Rel.fr (R : Rel K S H) : Free S H := fun _ _ h f => R.free h f
theorem Ext.tup (R : Free S H) (x : Ext S H S' H') {a : Addr} {vs : List V} (h : TpT K.K H a vs) : TpT K.K H' a vs := by
  rcases h with h | h
  · exact .inl (x a _ h (R _ _ h rfl)).1
  · exact .inr h
theorem Ext.lst (x : Ext S H S' H') {a : Addr} {vs : List V} (h : LsT K S H a vs) : LsT K S' H' a vs := by
  rcases h with ⟨n, zz, h | ⟨o, h⟩⟩ | h
  · exact .inl ⟨(x a _ h n).2, zz, .inl (x a _ h n).1⟩
  · exact .inl ⟨(x a _ h n).2, zz, .inr ⟨o, (x a _ h n).1⟩⟩
  · exact .inr h
mutual
theorem Rep.monoF (R : Free S H) (x : Ext S H S' H') : ∀ (d : D) (v : V), Rep K S H d v → Rep K S' H' d v
  | .non, _, h => by cases h; exact .non
  | .bl b, _, h => by cases h; exact .bl b
  | .int i, _, h => by cases h; exact .int i
  | .str z, _, h => by cases h; exact .str z
  | .ref a, _, h => by cases h; exact .ref a
  | .ty n, _, h => by cases h; exact .ty n
  | .tup ds, _, h => by
    cases h with
    | tup q z r => exact .tup (x.tup R q) z (RepL.monoF R x _ _ r)
  | .lst ds, _, h => by
    cases h with
    | lst q z r => exact .lst (x.lst q) z (RepL.monoF R x _ _ r)
  | .obj C ns ds, _, h => by
    cases h with
    | obj n q z r => exact .obj (x _ _ q n).2 (x _ _ q n).1 z (RepL.monoF R x _ _ r)
  | .dK ks ds, _, h => by
    cases h with
    | dK n q z r => exact .dK (x _ _ q n).2 (x _ _ q n).1 z (RepL.monoF R x _ _ r)
  | .dT ks ds, _, h => by
    cases h with
    | dT n q z r => exact .dT (x _ _ q n).2 (x _ _ q n).1 z (RepL.monoF R x _ _ r)
theorem RepL.monoF (R : Free S H) (x : Ext S H S' H') : ∀ (ds : List D) (vs : List V), RepL K S H ds vs → RepL K S' H' ds vs
  | [], _, h => by cases h; exact .nil
  | d :: ds, _, h => by
    cases h with
    | cons a b => exact .cons (Rep.monoF R x _ _ a) (RepL.monoF R x _ _ b)
end
theorem Rep.mono (R : Rel K S H) (x : Ext S H S' H') (d : D) (v : V) (r : Rep K S H d v) : Rep K S' H' d v := Rep.monoF R.fr x d v r
theorem RepL.mono (R : Rel K S H) (x : Ext S H S' H') (d : List D) (v : List V) (r : RepL K S H d v) : RepL K S' H' d v := RepL.monoF R.fr x d v r
/-- other lists are hidden: only such as stand nowhere, or were hidden -/
theorem LsT.hide {Z' : Addr → Prop} (z : ∀ a, Z' a → K.Z a ∨ H a = none) {a : Addr} {xs : List V} (h : LsT K S H a xs) : LsT ⟨K.K, Z'⟩ S H a xs := by
  rcases h with ⟨n, zz, h⟩ | h
  · refine .inl ⟨n, fun q => ?_, h⟩
    rcases z a q with q | q
    · exact zz q
    · rcases h with h | ⟨o, h⟩ <;> (rw [q] at h; cases h)
  · exact .inr h
mutual
theorem Rep.hide {Z' : Addr → Prop} (z : ∀ a, Z' a → K.Z a ∨ H a = none) : ∀ (d : D) (v : V), Rep K S H d v → Rep ⟨K.K, Z'⟩ S H d v
  | .non, _, h => by cases h; exact .non
  | .bl b, _, h => by cases h; exact .bl b
  | .int i, _, h => by cases h; exact .int i
  | .str z, _, h => by cases h; exact .str z
  | .ref a, _, h => by cases h; exact .ref a
  | .ty n, _, h => by cases h; exact .ty n
  | .tup ds, _, h => by
    cases h with
    | tup q y r => exact .tup q y (RepL.hide z _ _ r)
  | .lst ds, _, h => by
    cases h with
    | lst q y r => exact .lst (q.hide z) y (RepL.hide z _ _ r)
  | .obj C ns ds, _, h => by
    cases h with
    | obj n q y r => exact .obj n q y (RepL.hide z _ _ r)
  | .dK ks ds, _, h => by
    cases h with
    | dK n q y r => exact .dK n q y (RepL.hide z _ _ r)
  | .dT ks ds, _, h => by
    cases h with
    | dT n q y r => exact .dT n q y (RepL.hide z _ _ r)
theorem RepL.hide {Z' : Addr → Prop} (z : ∀ a, Z' a → K.Z a ∨ H a = none) : ∀ (ds : List D) (vs : List V), RepL K S H ds vs → RepL ⟨K.K, Z'⟩ S H ds vs
  | [], _, h => by cases h; exact .nil
  | d :: ds, _, h => by
    cases h with
    | cons a b => exact .cons (Rep.hide z _ _ a) (RepL.hide z _ _ b)
end
/-- a hidden list changes -/
def Turn1 (H H' : Hp) (D : Addr) : Prop := (∃ w, H D = some (.lst w)) ∧ ∀ a, a ≠ D → H' a = H a
theorem Turn1.rd {H H' : Hp} {D a : Addr} {u : HO} (t : Turn1 H H' D) (h : Rd H a u) (f : ∀ w, u ≠ .lst w) : Rd H' a u := by
  obtain ⟨⟨w, hw⟩, k⟩ := t
  have ne : a ≠ D := fun z => by
    subst z
    rcases h with h | ⟨o, h⟩
    · rw [hw] at h; cases h; exact f w rfl
    · rw [hw] at h; cases h
  unfold Rd
  rw [k a ne]; exact h
mutual
theorem Rep.turn {D : Addr} (t : Turn1 H H' D) (z : K.Z D) : ∀ (d : DL.D) (v : V), Rep K S H d v → Rep K S H' d v
  | .non, _, h => by cases h; exact .non
  | .bl b, _, h => by cases h; exact .bl b
  | .int i, _, h => by cases h; exact .int i
  | .str z, _, h => by cases h; exact .str z
  | .ref a, _, h => by cases h; exact .ref a
  | .ty n, _, h => by cases h; exact .ty n
  | .tup ds, _, h => by
    cases h with
    | tup q y r => exact .tup (q.elim (fun q => .inl (by rw [t.2 _ fun e => by obtain ⟨⟨w, hw⟩, _⟩ := t; rw [e, hw] at q; cases q]; exact q)) .inr) y (RepL.turn t z _ _ r)
  | .lst ds, _, h => by
    cases h with
    | @lst a _ _ q y r =>
      refine .lst (q.elim (fun q => .inl ⟨q.1, q.2.1, ?_⟩) .inr) y (RepL.turn t z _ _ r)
      have ne : a ≠ D := fun e => q.2.1 (e ▸ z)
      unfold Rd
      rw [t.2 a ne]; exact q.2.2
  | .obj C ns ds, _, h => by
    cases h with
    | @obj a C dx ns vs ds n q y r =>
      refine .obj (dx := dx) n ?_ y (RepL.turn t z _ _ r)
      rw [t.2 _ fun e => by obtain ⟨⟨w, hw⟩, _⟩ := t; rw [e, hw] at q; cases q]; exact q
  | .dK ks ds, _, h => by
    cases h with
    | dK n q y r =>
      refine .dK n ?_ y (RepL.turn t z _ _ r)
      rw [t.2 _ fun e => by obtain ⟨⟨w, hw⟩, _⟩ := t; rw [e, hw] at q; cases q]; exact q
  | .dT ks ds, _, h => by
    cases h with
    | dT n q y r =>
      refine .dT n ?_ y (RepL.turn t z _ _ r)
      rw [t.2 _ fun e => by obtain ⟨⟨w, hw⟩, _⟩ := t; rw [e, hw] at q; cases q]; exact q
theorem RepL.turn {D : Addr} (t : Turn1 H H' D) (z : K.Z D) : ∀ (ds : List DL.D) (vs : List V), RepL K S H ds vs → RepL K S H' ds vs
  | [], _, h => by cases h; exact .nil
  | d :: ds, _, h => by
    cases h with
    | cons a b => exact .cons (Rep.turn t z _ _ a) (RepL.turn t z _ _ b)
end
theorem RepL.length : ∀ {ds : List D} {vs : List V}, RepL K S H ds vs → ds.length = vs.length
  | _, _, .nil => rfl
  | _, _, .cons _ t => by rw [List.length_cons, List.length_cons, RepL.length t]
theorem RepL.get : ∀ {ds : List D} {vs : List V} {i : Nat} {d : D}, RepL K S H ds vs → ds[i]? = some d → ∃ v, vs[i]? = some v ∧ Rep K S H d v
  | _, _, _, _, .nil, e => by simp at e
  | _, _, 0, _, .cons r _, e => by
    obtain rfl : _ = _ := Option.some.inj e
    exact ⟨_, rfl, r⟩
  | _, _, i + 1, d, .cons _ t, e => RepL.get (i := i) t e
theorem RepL.get' : ∀ {ds : List D} {vs : List V} {i : Nat} {v : V}, RepL K S H ds vs → vs[i]? = some v → ∃ d, ds[i]? = some d ∧ Rep K S H d v
  | _, _, _, _, .nil, e => by simp at e
  | _, _, 0, _, .cons r _, e => by
    obtain rfl : _ = _ := Option.some.inj e
    exact ⟨_, rfl, r⟩
  | _, _, i + 1, d, .cons _ t, e => RepL.get' (i := i) t e
theorem RepL.append : ∀ {ds es : List D} {vs ws : List V}, RepL K S H ds vs → RepL K S H es ws → RepL K S H (ds ++ es) (vs ++ ws)
  | _, _, _, _, .nil, s => s
  | _, _, _, _, .cons r t, s => .cons r (RepL.append t s)
theorem RepL.take : ∀ {ds : List D} {vs : List V} (n : Nat), RepL K S H ds vs → RepL K S H (ds.take n) (vs.take n)
  | _, _, 0, _ => .nil
  | _, _, _ + 1, .nil => .nil
  | _, _, n + 1, .cons r t => .cons r (RepL.take n t)
theorem RepL.drop : ∀ {ds : List D} {vs : List V} (n : Nat), RepL K S H ds vs → RepL K S H (ds.drop n) (vs.drop n)
  | _, _, 0, r => r
  | _, _, _ + 1, .nil => .nil
  | _, _, n + 1, .cons _ t => RepL.drop n t
theorem RepL.set {d : D} {v : V} (r : Rep K S H d v) : ∀ {ds : List D} {vs : List V} (i : Nat), RepL K S H ds vs → RepL K S H (ds.set i d) (vs.set i v)
  | _, _, _, .nil => .nil
  | _, _, 0, .cons _ t => .cons r t
  | _, _, i + 1, .cons q t => .cons q (RepL.set r i t)
theorem RepL.reverse {ds : List D} {vs : List V} (r : RepL K S H ds vs) : RepL K S H ds.reverse vs.reverse := by
  induction ds generalizing vs with
  | nil => cases r; exact .nil
  | cons d ds ih =>
    cases r with
    | cons a b =>
      rw [List.reverse_cons, List.reverse_cons]
      exact (ih b).append (.cons a .nil)
theorem RepL.one {ds : List D} {v : V} (h : RepL K S H ds [v]) : ∃ d, ds = [d] ∧ Rep K S H d v := by
  cases h with
  | cons a b => cases b; exact ⟨_, rfl, a⟩
/-! ### the store changes -/
def put (S : Sto) (a : Addr) (o : O) : Sto := fun b => if b = a then some o else S b
def cut (S : Sto) (a : Addr) : Sto := fun b => if b = a then none else S b
@[simp] theorem put_same {S : Sto} {a : Addr} {o : O} : put S a o a = some o := if_pos rfl
theorem put_ne {S : Sto} {a b : Addr} {o : O} (h : b ≠ a) : put S a o b = S b := if_neg h
@[simp] theorem put_put {S : Sto} {a : Addr} {o u : O} : put (put S a o) a u = put S a u := by
  funext b; unfold put; split <;> rfl
@[simp] theorem cut_same {S : Sto} {a : Addr} : cut S a a = none := if_pos rfl
theorem cut_ne {S : Sto} {a b : Addr} (h : b ≠ a) : cut S a b = S b := if_neg h
theorem put_self {S : Sto} {a : Addr} {o : O} (h : S a = some o) : put S a o = S := by
  funext b; unfold put; split
  · rename_i e; rw [e, h]
  · rfl
theorem cut_put {S : Sto} {a : Addr} {o : O} (h : S a = none) : cut (put S a o) a = S := by
  funext b; unfold cut put; split
  · rename_i e; rw [e, h]
  · rfl
/-- S' is part of S -/
def Sub (S' S : Sto) : Prop := ∀ a o, S' a = some o → S a = some o
theorem Sub.refl {S : Sto} : Sub S S := fun _ _ h => h
theorem Sub.none {S S' : Sto} (h : Sub S' S) {a : Addr} (n : S a = none) : S' a = none := by
  cases e : S' a with
  | none => rfl
  | some o => rw [h a o e] at n; cases n
theorem Sub.ext (h : Sub S' S) : Ext S H S' H := fun _ _ q n => ⟨q, h.none n⟩
theorem RepO.mono (R : Rel K S H) (x : Ext S H S' H') {a : Addr} : ∀ (o : O), (∀ u, H a = some u → H' a = some u) → RepO K S H a o → RepO K S' H' a o
  | .lst ds, k, ⟨vs, q, z, r⟩ => ⟨vs, k _ q, z, RepL.mono R x _ _ r⟩
  | .obj C ns ds, k, ⟨dx, vs, q, z, r⟩ => ⟨dx, vs, k _ q, z, RepL.mono R x _ _ r⟩
  | .dK ks ds, k, ⟨vs, q, z, r⟩ => ⟨vs, k _ q, z, RepL.mono R x _ _ r⟩
  | .dT ks ds, k, ⟨vs, q, z, r⟩ => ⟨vs, k _ q, z, RepL.mono R x _ _ r⟩
  | .ts Φ cs, k, ⟨L, q, z, r⟩ => ⟨L, k _ q, z, fun p hp => x.tup R.fr (r p hp)⟩
theorem Rel.sub (R : Rel K S H) (h : Sub S' S) : Rel K S' H := ⟨fun a o e => RepO.mono R h.ext o (fun _ q => q) (R.get a o (h a o e)), fun a z => ⟨(R.hid a z).1, h.none (R.hid a z).2⟩⟩
theorem sub_put {S S' : Sto} {a : Addr} {o : O} (h : Sub S' S) (n : S' a = .none) : Sub S' (put S a o) := fun b u e => by
  have : b ≠ a := fun z => by rw [z, n] at e; cases e
  rw [put_ne this]; exact h b u e
/-- a new object that the store does not own -/
theorem Ext.new {a : Addr} {u : HO} (n : H a = none) : Ext S H S (upd H a u) := fun b o h m => ⟨by rw [upd_ne (ne_of_none h n)]; exact h, m⟩
theorem Rel.new (R : Rel K S H) {a : Addr} {u : HO} (n : H a = none) : Rel K S (upd H a u) := by
  refine ⟨fun b o e => ?_, fun b z => ⟨?_, (R.hid b z).2⟩⟩
  · obtain ⟨v, hv⟩ := R.some e
    exact RepO.mono R (Ext.new n) o (fun w q => by rw [upd_ne (ne_of_none q n)]; exact q) (R.get b o e)
  · have ne : b ≠ a := fun q => (R.hid b z).1 (by rw [q]; exact n)
    rw [upd_ne ne]; exact (R.hid b z).1
/-- a new object of the store's -/
theorem Ext.own {a : Addr} {u : HO} {o : O} (n : H a = none) : Ext S H (put S a o) (upd H a u) := fun b w h m => by
  have ne : b ≠ a := ne_of_none h n
  rw [upd_ne ne, put_ne ne]; exact ⟨h, m⟩
/-- an object of the store's changes -/
theorem Ext.write {a : Addr} {u : HO} {o o' : O} (e : S a = some o) : Ext S H (put S a o') (upd H a u) := fun b w h m => by
  have ne : b ≠ a := fun z => by rw [z, e] at m; cases m
  rw [upd_ne ne, put_ne ne]; exact ⟨h, m⟩
theorem Rel.put (R : Rel K S H) {a : Addr} {u : HO} {o : O} (x : Ext S H (DL.put S a o) (upd H a u)) (q : RepO K (DL.put S a o) (upd H a u) a o) (nz : ¬ K.Z a) : Rel K (DL.put S a o) (upd H a u) := by
  refine ⟨fun b w e => ?_, fun b z => ?_⟩
  · by_cases h : b = a
    · subst h
      rw [put_same] at e; cases e
      exact q
    · rw [put_ne h] at e
      exact RepO.mono R x w (fun v hv => by rw [upd_ne h]; exact hv) (R.get b w e)
  · have ne : b ≠ a := fun q => nz (q ▸ z)
    rw [upd_ne ne, put_ne ne]; exact R.hid b z
theorem Rel.turn {D : Addr} (R : Rel K S H) (t : Turn1 H H' D) (z : K.Z D) (n : H' D ≠ none) : Rel K S H' := by
  refine ⟨fun a o e => ?_, fun a h => ⟨?_, (R.hid a h).2⟩⟩
  · have ne : a ≠ D := fun q => by rw [q, (R.hid D z).2] at e; cases e
    have q := R.get a o e
    cases o with
    | lst ds => obtain ⟨vs, q, y, r⟩ := q; exact ⟨vs, by rw [t.2 a ne]; exact q, y, RepL.turn t z _ _ r⟩
    | obj C ns ds => obtain ⟨dx, vs, q, y, r⟩ := q; exact ⟨dx, vs, by rw [t.2 a ne]; exact q, y, RepL.turn t z _ _ r⟩
    | dK ks ds => obtain ⟨vs, q, y, r⟩ := q; exact ⟨vs, by rw [t.2 a ne]; exact q, y, RepL.turn t z _ _ r⟩
    | dT ks ds => obtain ⟨vs, q, y, r⟩ := q; exact ⟨vs, by rw [t.2 a ne]; exact q, y, RepL.turn t z _ _ r⟩
    | ts Φ cs => obtain ⟨L, q, y, r⟩ := q; exact ⟨L, by rw [t.2 a ne]; exact q, y, fun p hp => (r p hp).imp_left fun h => by rw [t.2 p.1 fun e => by obtain ⟨w, hw⟩ := t.1; rw [e, hw] at h; cases h]; exact h⟩
  · by_cases q : a = D
    · rw [q]; exact n
    · rw [t.2 a q]; exact (R.hid a h).1
/-- fewer lists are hidden -/
theorem Rel.show {Z' : Addr → Prop} (R : Rel ⟨K.K, Z'⟩ S H) (z : ∀ a, K.Z a → Z' a) : Rel K S H := by
  have up : ∀ {ds vs}, RepL ⟨K.K, Z'⟩ S H ds vs → RepL K S H ds vs := fun r => RepL.hide (K := ⟨K.K, Z'⟩) (Z' := K.Z) (fun a h => .inl (z a h)) _ _ r
  refine ⟨fun a o e => ?_, fun a h => R.hid a (z a h)⟩
  have q := R.get a o e
  cases o with
  | lst ds => obtain ⟨vs, q, y, r⟩ := q; exact ⟨vs, q, y, up r⟩
  | obj C ns ds => obtain ⟨dx, vs, q, y, r⟩ := q; exact ⟨dx, vs, q, y, up r⟩
  | dK ks ds => obtain ⟨vs, q, y, r⟩ := q; exact ⟨vs, q, y, up r⟩
  | dT ks ds => obtain ⟨vs, q, y, r⟩ := q; exact ⟨vs, q, y, up r⟩
  | ts Φ cs => exact q
/-- a new list that is hidden -/
theorem Rel.hideNew {D : Addr} {w : List V} (R : Rel K S H) (n : H D = none) : Rel ⟨K.K, fun a => K.Z a ∨ a = D⟩ S (upd H D (.lst w)) := by
  have hz : ∀ a, (K.Z a ∨ a = D) → K.Z a ∨ H a = none := fun a q => q.imp_right fun e => by rw [e]; exact n
  have x : Ext S H S (upd H D (.lst w)) := Ext.new n
  have up : ∀ {ds vs}, RepL K S H ds vs → RepL ⟨K.K, fun a => K.Z a ∨ a = D⟩ S (upd H D (.lst w)) ds vs := fun r => RepL.monoF R.fr x _ _ (RepL.hide hz _ _ r)
  have ne : ∀ a o, S a = Option.some o → a ≠ D := fun a o e q => by rw [q, R.fresh n] at e; cases e
  refine ⟨fun a o e => ?_, fun a h => ?_⟩
  · have q := R.get a o e
    have k : upd H D (.lst w) a = H a := upd_ne (ne a o e)
    cases o with
    | lst ds => obtain ⟨vs, q, y, r⟩ := q; exact ⟨vs, k.trans q, y, up r⟩
    | obj C ns ds => obtain ⟨dx, vs, q, y, r⟩ := q; exact ⟨dx, vs, k.trans q, y, up r⟩
    | dK ks ds => obtain ⟨vs, q, y, r⟩ := q; exact ⟨vs, k.trans q, y, up r⟩
    | dT ks ds => obtain ⟨vs, q, y, r⟩ := q; exact ⟨vs, k.trans q, y, up r⟩
    | ts Φ cs => obtain ⟨L, q, y, r⟩ := q; exact ⟨L, k.trans q, y, fun p hp => x.tup R.fr (r p hp)⟩
  · by_cases q : a = D
    · subst q; exact ⟨by rw [upd_same]; exact fun z => (nomatch z), R.fresh n⟩
    · rw [upd_ne q]; exact R.hid a (h.resolve_right q)
theorem Rel.nz (R : Rel K S H) {a : Addr} (h : H a = none) : ¬ K.Z a := fun z => (R.hid a z).1 h
theorem Rel.nz' (R : Rel K S H) {a : Addr} {o : O} (h : S a = Option.some o) : ¬ K.Z a := fun z => by
  rw [(R.hid a z).2] at h; cases h
theorem sub_cut {S : Sto} {a : Addr} : Sub (cut S a) S := fun b o e => by
  by_cases h : b = a
  · subst h; rw [cut_same] at e; cases e
  · rw [cut_ne h] at e; exact e
/-- an owned list is settled -/
theorem Rep.settle (R : Rel K S H) (h : Sub S' S) {a : Addr} {ds : List D} (e : S a = some (.lst ds)) (n : S' a = none) : Rep K S' H (.lst ds) (.ref a) := by
  obtain ⟨vs, q, z, r⟩ := R.get a _ e
  exact .lst (.inl ⟨n, R.nz' e, .inl q⟩) z (RepL.mono R h.ext _ _ r)
theorem Rep.settleO (R : Rel K S H) (h : Sub S' S) {a C : Addr} {ns : List Str} {ds : List D} (e : S a = some (.obj C ns ds)) (n : S' a = none) : Rep K S' H (.obj C ns ds) (.ref a) := by
  obtain ⟨dx, vs, q, z, r⟩ := R.get a _ e
  exact .obj n q z (RepL.mono R h.ext _ _ r)
end
/-! ### the slots -/
/-- what the environment tells of the slots -/
structure EnvOk (K : Kz) (S : Sto) (H : Hp) (env : DEnv) (σ : L2.St) : Prop where
  len : env.length = σ.length
  get : ∀ (i : Nat) d, env[i]? = some (some d) → ∃ v, σ[i]? = some (some v) ∧ Rep K S H d v
section
variable {K : Kz} {S S' : Sto} {H H' : Hp} {env : DEnv} {σ : L2.St}
theorem EnvOk.mono (e : EnvOk K S H env σ) (R : Rel K S H) (x : Ext S H S' H') : EnvOk K S' H' env σ := ⟨e.len, fun i d h => let ⟨v, h1, h2⟩ := e.get i d h; ⟨v, h1, Rep.mono R x _ _ h2⟩⟩
theorem EnvOk.set (e : EnvOk K S H env σ) {d : D} {v : V} (r : Rep K S H d v) (i : Nat) : EnvOk K S H (env.set i (some d)) (σ.set i (some v)) := by
  refine ⟨by rw [List.length_set, List.length_set]; exact e.len, fun j d' h => ?_⟩
  by_cases hj : i = j
  · subst hj
    by_cases hi : i < env.length
    · rw [List.getElem?_set_self hi] at h
      cases h
      exact ⟨v, List.getElem?_set_self (by rw [← e.len]; exact hi), r⟩
    · rw [List.getElem?_eq_none (by rw [List.length_set]; omega)] at h; cases h
  · rw [List.getElem?_set_ne hj] at h ⊢
    exact e.get j d' h
end
end DL
namespace DL
open PySem PySem.Spec PyProof.Rows L2
/-- the state that exceptions are told against -/
structure Bs where
  S : Sto
  H : Hp
  Z : Addr → Prop
/-- the written part as this body tells of it -/
abbrev kz (X : Cx) (B : Bs) : Kz := ⟨X.K, B.Z⟩
abbrev DQ := D → Sto → Prop
/-- readings over trees: an expression's, a test's, an argument list's -/
abbrev ME := DEnv → Sto → DQ → Prop
abbrev MT := DEnv → Sto → (Bool → Sto → Prop) → Prop
abbrev MA := DEnv → Sto → (List D → Sto → Prop) → Prop
structure DEnds where
  nx : DEnv → Sto → Prop
  rt : DQ
  bk : DEnv → Sto → Prop := fun _ _ => False
  ct : DEnv → Sto → Prop := fun _ _ => False
abbrev MS := DEnds → DEnv → Sto → Prop
/-- a state by its tree -/
structure StOk (K : Kz) (B : Bs) (S : Sto) (H : Hp) (env : DEnv) (σ : L2.St) : Prop where
  env : EnvOk K S H env σ
  rel : Rel K S H
  base : Ext B.S B.H S H
/-- what is wanted of a value, told over trees -/
def Fin (K : Kz) (S : Sto) (H : Hp) (Qd : DQ) (Q : VK) : Prop := ∀ d S' v H', Ext S H S' H' → Rel K S' H' → Rep K S' H' d v → Qd d S' → Q v H'
section
variable (K : Kz) (B : Bs)
def cE (m : ME) : TE := fun σ H Q => ∃ env S Qd, StOk K B S H env σ ∧ m env S Qd ∧ Fin K S H Qd Q
def cT (m : MT) : TT := fun σ H Q => ∃ env S Qd, StOk K B S H env σ ∧ m env S Qd ∧ ∀ b S' H', Ext S H S' H' → Rel K S' H' → Qd b S' → Q b H'
def cA (m : MA) : TA := fun σ H Q => ∃ env S Qd, StOk K B S H env σ ∧ m env S Qd ∧ ∀ ds S' vs H', Ext S H S' H' → Rel K S' H' → RepL K S' H' ds vs → Qd ds S' → Q vs H'
structure EndsOk (S : Sto) (H : Hp) (Dd : DEnds) (D : Ends) : Prop where
  nx : ∀ env' S' σ' H', Ext S H S' H' → StOk K B S' H' env' σ' → Dd.nx env' S' → D.nx σ' H'
  rt : ∀ d S' v H', Ext S H S' H' → Rel K S' H' → Rep K S' H' d v → Dd.rt d S' → D.rt v H'
  bk : ∀ env' S' σ' H', Ext S H S' H' → StOk K B S' H' env' σ' → Dd.bk env' S' → D.bk σ' H'
  ct : ∀ env' S' σ' H', Ext S H S' H' → StOk K B S' H' env' σ' → Dd.ct env' S' → D.ct σ' H'
def cS (m : MS) : TS := fun D σ H => ∃ env S Dd, StOk K B S H env σ ∧ m Dd env S ∧ EndsOk K B S H Dd D
end
/-- the judgements -/
abbrev DE (X : Cx) (B : Bs) (e : Expr) (m : ME) : Prop := PE X e (cE (kz X B) B m)
abbrev DT (X : Cx) (B : Bs) (e : Expr) (m : MT) : Prop := PT X e (cT (kz X B) B m)
abbrev DA (X : Cx) (B : Bs) (es : List Expr) (m : MA) : Prop := PA X es (cA (kz X B) B m)
abbrev DS (X : Cx) (B : Bs) (st : Stmt) (m : MS) : Prop := PS X st (cS (kz X B) B m)
abbrev DSs (X : Cx) (B : Bs) (sts : List Stmt) (m : MS) : Prop := PSs X sts (cS (kz X B) B m)
theorem PE_imp {X : Cx} {e : Expr} {t t' : TE} (h : PE X e t) (i : ∀ σ H Q, t' σ H Q → t σ H Q) : PE X e t' := ⟨fun pins s σ H Q I q => h.run pins s σ H Q I (i σ H Q q)⟩
theorem PT_imp {X : Cx} {e : Expr} {t t' : TT} (h : PT X e t) (i : ∀ σ H Q, t' σ H Q → t σ H Q) : PT X e t' := ⟨fun pins s σ H Q I q => h.run pins s σ H Q I (i σ H Q q)⟩
theorem PA_imp {X : Cx} {e : List Expr} {t t' : TA} (h : PA X e t) (i : ∀ σ H Q, t' σ H Q → t σ H Q) : PA X e t' := ⟨fun pos pins s σ H Q I q => h.run pos pins s σ H Q I (i σ H Q q)⟩
theorem PS_imp {X : Cx} {e : Stmt} {t t' : TS} (h : PS X e t) (i : ∀ D σ H, t' D σ H → t D σ H) : PS X e t' := ⟨fun pins s σ H D I q => h.run pins s σ H D I (i D σ H q)⟩
theorem PSs_imp {X : Cx} {e : List Stmt} {t t' : TS} (h : PSs X e t) (i : ∀ D σ H, t' D σ H → t D σ H) : PSs X e t' := ⟨fun pins s σ H D I q => h.run pins s σ H D I (i D σ H q)⟩
section
variable {K : Kz} {B : Bs} {S S' S1 : Sto} {H H' H1 : Hp} {env : DEnv} {σ : L2.St}
theorem StOk.mono (s : StOk K B S H env σ) (x : Ext S H S' H') (R : Rel K S' H') : StOk K B S' H' env σ := ⟨s.env.mono s.rel x, R, s.base.trans x⟩
theorem StOk.set (s : StOk K B S H env σ) {d : D} {v : V} (r : Rep K S H d v) (i : Nat) : StOk K B S H (env.set i (some d)) (σ.set i (some v)) := ⟨s.env.set r i, s.rel, s.base⟩
theorem EndsOk.after {Dd : DEnds} {D : Ends} (f : EndsOk K B S H Dd D) (x : Ext S H S1 H1) : EndsOk K B S1 H1 Dd D :=
  ⟨fun e S' σ' H' x' => f.nx e S' σ' H' (x.trans x'), fun e S' σ' H' x' => f.rt e S' σ' H' (x.trans x'), fun e S' σ' H' x' => f.bk e S' σ' H' (x.trans x'), fun e S' σ' H' x' => f.ct e S' σ' H' (x.trans x')⟩
theorem Fin.after {Qd : DQ} {Q : VK} (f : Fin K S H Qd Q) (x : Ext S H S1 H1) : Fin K S1 H1 Qd Q := fun d S' v H' x' R' r q => f d S' v H' (x.trans x') R' r q
/-- an expression's reading, run -/
theorem cE.run {m : ME} {Q : VK} {Qd : DQ} (s : StOk K B S H env σ) (q : m env S Qd) (f : Fin K S H Qd Q) : cE K B m σ H Q := ⟨env, S, Qd, s, q, f⟩
theorem Fin.here {Qd : DQ} {Q : VK} (f : Fin K S H Qd Q) (R : Rel K S H) {d : D} {v : V} (r : Rep K S H d v) (q : Qd d S) : Q v H := f d S v H Ext.refl R r q
/-- a new settled list, a new tuple, a new list of the store's -/
theorem Fin.lst {Qd : DQ} {Q : VK} (f : Fin K S H Qd Q) (R : Rel K S H) {p : Addr} {ds : List D} {vs : List V} (n : H p = none) (z : vs.length ≤ sizeLine) (r : RepL K S H ds vs) (q : Qd (.lst ds) S) : Q (.ref p) (upd H p (.lst vs)) :=
  f _ _ _ _ (Ext.new n) (R.new n) (.lst (.inl ⟨R.fresh n, R.nz n, .inl upd_same⟩) z (RepL.mono R (Ext.new n) _ _ r)) q
theorem Fin.tup {Qd : DQ} {Q : VK} (f : Fin K S H Qd Q) (R : Rel K S H) {p : Addr} {ds : List D} {vs : List V} (n : H p = none) (z : vs.length ≤ sizeLine) (r : RepL K S H ds vs) (q : Qd (.tup ds) S) : Q (.ref p) (upd H p (.tup vs)) :=
  f _ _ _ _ (Ext.new n) (R.new n) (.tup (.inl upd_same) z (RepL.mono R (Ext.new n) _ _ r)) q
theorem Fin.own {Qd : DQ} {Q : VK} (f : Fin K S H Qd Q) (R : Rel K S H) {p : Addr} {ds : List D} {vs : List V} (n : H p = none) (z : vs.length ≤ sizeLine) (r : RepL K S H ds vs) (q : ∀ p, S p = none → Qd (.ref p) (put S p (.lst ds))) : Q (.ref p) (upd H p (.lst vs)) := by
  refine f _ _ _ _ (Ext.own n) (R.put (o := .lst ds) (Ext.own n) ⟨vs, upd_same, z, RepL.mono R (Ext.own n) _ _ r⟩ (R.nz n)) (.ref p) (q p (R.fresh n))
theorem nat_le_line {a b : Nat} (h : a = b) (z : b ≤ sizeLine) : a ≤ sizeLine := h ▸ z
end
/-! ### sequences -/
/-- the items of a list -/
def lstOf (S : Sto) : D → Option (List D)
  | .lst ds => some ds
  | .ref a => match S a with
    | some (.lst ds) => some ds
    | _ => none
  | _ => none
/-- the items of a list or a tuple -/
def seqOf (S : Sto) : D → Option (List D)
  | .tup ds => some ds
  | d => lstOf S d
@[simp] theorem lstOf_lst {S : Sto} {ds : List D} : lstOf S (.lst ds) = some ds := rfl
theorem lstOf_ref {S : Sto} {a : Addr} {ds : List D} (h : S a = some (.lst ds)) : lstOf S (.ref a) = some ds := by simp [lstOf, h]
@[simp] theorem lstOf_put {S : Sto} {a : Addr} {ds : List D} : lstOf (put S a (.lst ds)) (.ref a) = some ds := lstOf_ref put_same
@[simp] theorem seqOf_tup {S : Sto} {ds : List D} : seqOf S (.tup ds) = some ds := rfl
@[simp] theorem seqOf_lst {S : Sto} {ds : List D} : seqOf S (.lst ds) = some ds := rfl
theorem seqOf_ref {S : Sto} {a : Addr} {ds : List D} (h : S a = some (.lst ds)) : seqOf S (.ref a) = some ds := lstOf_ref h
@[simp] theorem seqOf_put {S : Sto} {a : Addr} {ds : List D} : seqOf (put S a (.lst ds)) (.ref a) = some ds := lstOf_put
section
variable {K : Kz} {S : Sto} {H : Hp}
theorem lst_read {d : D} {v : V} {ds : List D} (R : Rel K S H) (r : Rep K S H d v) (h : lstOf S d = some ds) : ∃ a vs, v = .ref a ∧ SqL K.K H a vs ∧ vs.length ≤ sizeLine ∧ RepL K S H ds vs := by
  cases d with
  | lst es =>
    cases h
    cases r with
    | lst q z r => exact ⟨_, _, rfl, q.sq, z, r⟩
  | ref a =>
    cases r
    unfold lstOf at h
    cases e : S a with
    | none => simp only [e] at h; cases h
    | some o =>
      cases o with
      | lst es =>
        simp only [e] at h; cases h
        obtain ⟨vs, q, z, r⟩ := R.get a _ e
        exact ⟨a, vs, rfl, .inl (.inl q), z, r⟩
      | _ => simp only [e] at h; cases h
  | _ => cases h
/-- .. and, of a tuple, that it is one that was made or one of the module's -/
theorem seq_readT {d : D} {v : V} {ds : List D} (R : Rel K S H) (r : Rep K S H d v) (h : seqOf S d = some ds) : ∃ a vs, v = .ref a ∧ (SqL K.K H a vs ∨ TpT K.K H a vs) ∧ vs.length ≤ sizeLine ∧ RepL K S H ds vs := by
  by_cases t : ∃ es, d = .tup es
  · obtain ⟨es, rfl⟩ := t
    cases h
    cases r with
    | tup q z r => exact ⟨_, _, rfl, .inr q, z, r⟩
  · have h' : lstOf S d = some ds := by
      cases d with
      | tup es => exact (t ⟨es, rfl⟩).elim
      | _ => exact h
    obtain ⟨a, vs, e, q, z, r⟩ := lst_read R r h'
    exact ⟨a, vs, e, .inl q, z, r⟩
theorem seq_read {d : D} {v : V} {ds : List D} (R : Rel K S H) (r : Rep K S H d v) (h : seqOf S d = some ds) : ∃ a vs, v = .ref a ∧ (SqL K.K H a vs ∨ SqT K.K H a vs) ∧ vs.length ≤ sizeLine ∧ RepL K S H ds vs := by
  by_cases t : ∃ es, d = .tup es
  · obtain ⟨es, rfl⟩ := t
    cases h
    cases r with
    | tup q z r => exact ⟨_, _, rfl, .inr q.sq, z, r⟩
  · have h' : lstOf S d = some ds := by
      cases d with
      | tup es => exact (t ⟨es, rfl⟩).elim
      | _ => exact h
    obtain ⟨a, vs, e, q, z, r⟩ := lst_read R r h'
    exact ⟨a, vs, e, .inl q, z, r⟩
end
/-! ### names, constants -/
def dVar (i : Nat) : ME := fun env S Q => match env[i]? with
  | some (some d) => Q d S
  | _ => False
def dC (d : D) : ME := fun _ S Q => Q d S
section
variable {X : Cx} {B : Bs} {a b c e : Expr} {ma mb : ME} {pos : Pos}
theorem de_var (i : Nat) {x : Str} (hN : X.N[i]? = some x := by rfl) (hv : Vis X.env.scope x := by first | exact Or.inl rfl | exact Or.inr (Or.inl rfl) | exact Or.inr (Or.inr rfl)) (hd : (x == ("__debug__" : Str)) = false := by decide)
    (hcd : (x == ("__classdict__" : Str)) = false := by decide) : DE X B (.Name x pos) (dVar i) := PE_imp (pe_var hN hv hd hcd) fun σ H Q ⟨env, S, Qd, s, q, f⟩ => by
  unfold dVar at q
  cases h : env[i]? with
  | none => rw [h] at q; exact q.elim
  | some o =>
    cases o with
    | none => rw [h] at q; exact q.elim
    | some d =>
      rw [h] at q
      obtain ⟨v, h1, h2⟩ := s.env.get i d h
      exact ⟨v, h1, f.here s.rel h2 q⟩
theorem de_c {d : D} {v : V} (h : PE X e (tC v)) (r : ∀ S H, Rep (kz X B) S H d v) : DE X B e (dC d) := PE_imp h fun σ H Q ⟨env, S, Qd, s, q, f⟩ => f.here s.rel (r S H) q
theorem de_int {i : Int} {j : Nat} : DE X B (.Constant (.int i) j pos) (dC (.int i)) := de_c pe_int fun _ _ => .int i
theorem de_bl {i : Bool} {j : Nat} : DE X B (.Constant (.bool i) j pos) (dC (.bl i)) := de_c pe_bl fun _ _ => .bl i
theorem de_non {j : Nat} : DE X B (.Constant .none j pos) (dC .non) := de_c pe_non fun _ _ => .non
theorem de_str {i : Str} {j : Nat} : DE X B (.Constant (.str i) j pos) (dC (.str i)) := de_c pe_str fun _ _ => .str i
/-- a name of the module: an int, a text, a class, a def, .. -/
theorem de_glob {x : Str} {d : D} {v : V} {u : Value} (hg : Gl X x) (hm : X.mg x = some u) (r : RelV v u) (rd : ∀ S H, Rep (kz X B) S H d v) (hd : (x == ("__debug__" : Str)) = false := by decide) : DE X B (.Name x pos) (dC d) :=
  de_c (pe_glob hg hm r hd) rd
/-- a built-in class as a value -/
theorem de_ty {x : Str} {T : String} (hg : Gl X x) (hm : X.mg x = none) (hv : bootBuiltins x = some (.type T)) (hn : x ≠ "__name__" := by decide) (hd : (x == ("__debug__" : Str)) = false := by decide) : DE X B (.Name x pos) (dC (.ty T)) :=
  de_c (pe_bltn hg hm hv (v := .ty T) rfl hn hd) fun _ _ => .ty T
/-! ### argument lists, displays -/
def dNil : MA := fun _ S Q => Q [] S
def dCons (m : ME) (r : MA) : MA := fun env S Q => m env S fun d S1 => r env S1 fun ds S2 => Q (d :: ds) S2
theorem da_nil : DA X B [] dNil := PA_imp pa_nil fun σ H Q ⟨env, S, Qd, s, q, f⟩ => f [] S [] H Ext.refl s.rel .nil q
theorem da_cons {es : List Expr} {mr : MA} (ha : DE X B e ma) (hr : DA X B es mr) (hs : starEach (e :: es) X.env = (false, eval e X.env) :: starEach es X.env := by rfl) : DA X B (e :: es) (dCons ma mr) :=
  PA_imp (pa_cons ha hr hs) fun σ H Q ⟨env, S, Qd, s, q, f⟩ => by
  refine ⟨env, S, _, s, q, fun d S1 v H1 x1 R1 r1 q1 => ?_⟩
  refine ⟨env, S1, _, s.mono x1 R1, q1, fun ds S2 vs H2 x2 R2 r2 q2 => ?_⟩
  exact f (d :: ds) S2 (v :: vs) H2 (x1.trans x2) R2 (.cons (Rep.mono R1 x2 _ _ r1) r2) q2
def dTup (t : MA) : ME := fun env S Q => t env S fun ds S1 => ds.length ≤ sizeLine ∧ Q (.tup ds) S1
/-- a list that stays as it is -/
def dLst (t : MA) : ME := fun env S Q => t env S fun ds S1 => ds.length ≤ sizeLine ∧ Q (.lst ds) S1
/-- a list that will be changed -/
def dLstO (t : MA) : ME := fun env S Q => t env S fun ds S1 => ds.length ≤ sizeLine ∧ ∀ p, S1 p = none → Q (.ref p) (put S1 p (.lst ds))
theorem de_tup {es : List Expr} {m : MA} {k} (h : DA X B es m) : DE X B (.Tuple es k pos) (dTup m) := PE_imp (pe_tup h) fun σ H Q ⟨env, S, Qd, s, q, f⟩ => by
  refine ⟨env, S, _, s, q, fun ds S1 vs H1 x1 R1 r1 q1 => ?_⟩
  have z := nat_le_line r1.length.symm q1.1
  exact ⟨z, fun p n => (f.after x1).tup R1 n z r1 q1.2⟩
theorem de_lst {es : List Expr} {m : MA} (h : DA X B es m) : DE X B (.List es pos) (dLst m) := PE_imp (pe_lst h) fun σ H Q ⟨env, S, Qd, s, q, f⟩ => by
  refine ⟨env, S, _, s, q, fun ds S1 vs H1 x1 R1 r1 q1 => ?_⟩
  have z := nat_le_line r1.length.symm q1.1
  exact ⟨z, fun p n => (f.after x1).lst R1 n z r1 q1.2⟩
theorem de_lstO {es : List Expr} {m : MA} (h : DA X B es m) : DE X B (.List es pos) (dLstO m) := PE_imp (pe_lst h) fun σ H Q ⟨env, S, Qd, s, q, f⟩ => by
  refine ⟨env, S, _, s, q, fun ds S1 vs H1 x1 R1 r1 q1 => ?_⟩
  have z := nat_le_line r1.length.symm q1.1
  exact ⟨z, fun p n => (f.after x1).own R1 n z r1 q1.2⟩
/-! ### operators -/
abbrev D2 := D → D → Sto → DQ → Prop
abbrev D1 := D → Sto → DQ → Prop
def dOp (p : D2) (ma mb : ME) : ME := fun env S Q => ma env S fun x S1 => mb env S1 fun y S2 => p x y S2 Q
def dUn (p : D1) (ma : ME) : ME := fun env S Q => ma env S fun x S1 => p x S1 Q
/-- the operation p over trees, by the rule r -/
def OpD (K : Kz) (r : R2) (p : D2) : Prop := ∀ (S : Sto) (H : Hp) x y v w Qd Q, Rel K S H → Rep K S H x v → Rep K S H y w → p x y S Qd → Fin K S H Qd Q → r v w H Q
def UnD (K : Kz) (r : V → Hp → VK → Prop) (p : D1) : Prop := ∀ (S : Sto) (H : Hp) x v Qd Q, Rel K S H → Rep K S H x v → p x S Qd → Fin K S H Qd Q → r v H Q
theorem tOp_of {K : Kz} {r : R2} {p : D2} (h : OpD K r p) {σ : L2.St} {H : Hp} {Q : VK} (q : cE K B (dOp p ma mb) σ H Q) : tOp r (cE K B ma) (cE K B mb) σ H Q := by
  obtain ⟨env, S, Qd, s, q, f⟩ := q
  refine ⟨env, S, _, s, q, fun x S1 v H1 x1 R1 r1 q1 => ?_⟩
  refine ⟨env, S1, _, s.mono x1 R1, q1, fun y S2 w H2 x2 R2 r2 q2 => ?_⟩
  exact h S2 H2 x y v w Qd Q R2 (Rep.mono R1 x2 _ _ r1) r2 q2 (f.after (x1.trans x2))
theorem de_op {op : Operator} {r : R2} {p : D2} (ho : OpR X (binaryOp op) r) (h : OpD (kz X B) r p) (ha : DE X B a ma) (hb : DE X B b mb) : DE X B (.BinOp a op b pos) (dOp p ma mb) := PE_imp (pe_op ho ha hb) fun _ _ _ q => tOp_of h q
theorem de_un {op : UnaryOp} {r : V → Hp → VK → Prop} {p : D1} (ho : UnR X (unaryOp op) r) (h : UnD (kz X B) r p) (ha : DE X B a ma) : DE X B (.UnaryOp op a pos) (dUn p ma) := PE_imp (pe_un ho ha) fun σ H Q ⟨env, S, Qd, s, q, f⟩ =>
  ⟨env, S, _, s, q, fun x S1 v H1 x1 R1 r1 q1 => h S1 H1 x v Qd Q R1 r1 q1 (f.after x1)⟩
theorem de_cmp {op : CmpOp} {r : R2} {p : D2} (ho : OpR X (compareOp op) r) (h : OpD (kz X B) r p) (ha : DE X B a ma) (hb : DE X B b mb) (hm : behindInMarks op b = false) : DE X B (.Compare a [op] [b] pos) (dOp p ma mb) :=
  PE_imp (pe_cmpR ho ha hb hm) fun _ _ _ q => tOp_of h q
/-- a bool as a test -/
def dTest (m : ME) : MT := fun env S Q => m env S fun x S1 => match x with
  | .bl k => Q k S1
  | _ => False
theorem tTest_of {K : Kz} {t : TE} {m : ME} (i : ∀ σ H Q, cE K B m σ H Q → t σ H Q) {σ : L2.St} {H : Hp} {Q : Bool → Hp → Prop} (q : cT K B (dTest m) σ H Q) : tTest t σ H Q := by
  obtain ⟨env, S, Qd, s, q, f⟩ := q
  refine i σ H _ ⟨env, S, _, s, q, fun x S1 v H1 x1 R1 r1 q1 => ?_⟩
  cases x with
  | bl k => cases r1; exact ⟨k, rfl, f k S1 H1 x1 R1 q1⟩
  | _ => exact q1.elim
theorem dt_cmp {op : CmpOp} {r : R2} {p : D2} (ho : OpR X (compareOp op) r) (h : OpD (kz X B) r p) (ha : DE X B a ma) (hb : DE X B b mb) (hm : behindInMarks op b = false) : DT X B (.Compare a [op] [b] pos) (dTest (dOp p ma mb)) :=
  PT_imp (pt_cmpR ho ha hb hm) fun _ _ _ q => tTest_of (fun _ _ _ q => tOp_of h q) q
theorem dt_val (h : DE X B e ma) (he : ∀ whole, isTrue e X.env whole = (do let v ← whole; standAt e.pos; holding [v] (truthy v)) := by intro _; rfl) : DT X B e (dTest ma) := PT_imp (pt_val h he) fun σ H Q q => by
  have q := tTest_of (fun _ _ _ q => q) q
  exact q
/-- any value's truth -/
def truD (S : Sto) : D → Option Bool
  | .non => some false
  | .bl b => some b
  | .int i => some (i != 0)
  | .tup xs => some (!xs.isEmpty)
  | d => (lstOf S d).map fun xs => !xs.isEmpty
def dTru (m : ME) : MT := fun env S Q => m env S fun x S1 => match truD S1 x with
  | some k => Q k S1
  | none => False
theorem RepL.isEmpty {K : Kz} {S : Sto} {H : Hp} {ds : List D} {vs : List V} (r : RepL K S H ds vs) : vs.isEmpty = ds.isEmpty := by
  cases r <;> rfl
theorem tru_read {K : Kz} {S : Sto} {H : Hp} {d : D} {v : V} {k : Bool} (R : Rel K S H) (r : Rep K S H d v) (h : truD S d = some k) : TruV K.K v H k := by
  have lists : ∀ {d : D}, Rep K S H d v → (lstOf S d).map (fun xs => !xs.isEmpty) = some k → TruV K.K v H k := fun {d} r h => by
    cases e : lstOf S d with
    | none => rw [e] at h; cases h
    | some xs =>
      rw [e] at h
      obtain ⟨a, vs, rfl, q, z, rr⟩ := lst_read R r e
      cases h
      exact .inl ⟨vs, q, by rw [RepL.isEmpty rr]⟩
  cases d with
  | non => cases r; cases h; exact rfl
  | bl b => cases r; cases h; exact rfl
  | int i => cases r; cases h; exact rfl
  | tup xs =>
    cases r with
    | tup q z rr => cases h; exact .inr (.inl ⟨_, q.sq, by rw [RepL.isEmpty rr]⟩)
  | _ => exact lists r h
theorem dt_tru (h : DE X B e ma) (he : ∀ whole, isTrue e X.env whole = (do let v ← whole; standAt e.pos; holding [v] (truthy v)) := by intro _; rfl) : DT X B e (dTru ma) := PT_imp (pt_truth h he) fun σ H Q ⟨env, S, Qd, s, q, f⟩ => by
  refine ⟨env, S, _, s, q, fun x S1 v H1 x1 R1 r1 q1 => ?_⟩
  cases t : truD S1 x with
  | none => simp only [t] at q1
  | some k =>
    simp only [t] at q1
    exact ⟨k, tru_read R1 r1 t, f k S1 H1 x1 R1 q1⟩
/-! ### and, or, not -/
variable {mA mB : MT} {rest : List Expr}
def dAnd (t u : MT) : MT := fun env S Q => t env S fun c S1 => if c = true then u env S1 Q else Q false S1
def dOr (t u : MT) : MT := fun env S Q => t env S fun c S1 => if c = true then Q true S1 else u env S1 Q
def dNot (t : MT) : MT := fun env S Q => t env S fun c S1 => Q (!c) S1
abbrev DW (X : Cx) (B : Bs) (e : Expr) (m : MT) : Prop := PW X e (cT (kz X B) B m)
theorem PW_imp {X : Cx} {e : Expr} {t t' : TT} (h : PW X e t) (i : ∀ σ H Q, t' σ H Q → t σ H Q) : PW X e t' := ⟨fun w pins s σ H Q I q => h.run w pins s σ H Q I (i σ H Q q)⟩
theorem dw_and1 (ha : DT X B a mA) : DW X B (.BoolOp .And [a] pos) mA := pw_and1 ha
theorem dw_or1 (ha : DT X B a mA) : DW X B (.BoolOp .Or [a] pos) mA := pw_or1 ha
theorem dw_and (ha : DT X B a mA) (hb : DW X B (.BoolOp .And (b :: rest) pos) mB) : DW X B (.BoolOp .And (a :: b :: rest) pos) (dAnd mA mB) := PW_imp (pw_and ha hb) fun σ H Q ⟨env, S, Qd, s, q, f⟩ => by
  refine ⟨env, S, _, s, q, fun c S1 H1 x1 R1 q1 => ?_⟩
  cases c with
  | true =>
    rw [if_pos rfl] at q1 ⊢
    exact ⟨env, S1, Qd, s.mono x1 R1, q1, fun b S2 H2 x2 R2 q2 => f b S2 H2 (x1.trans x2) R2 q2⟩
  | false =>
    rw [if_neg Bool.false_ne_true] at q1 ⊢
    exact f _ _ _ x1 R1 q1
theorem dw_or (ha : DT X B a mA) (hb : DW X B (.BoolOp .Or (b :: rest) pos) mB) : DW X B (.BoolOp .Or (a :: b :: rest) pos) (dOr mA mB) := PW_imp (pw_or ha hb) fun σ H Q ⟨env, S, Qd, s, q, f⟩ => by
  refine ⟨env, S, _, s, q, fun c S1 H1 x1 R1 q1 => ?_⟩
  cases c with
  | false =>
    rw [if_neg Bool.false_ne_true] at q1 ⊢
    exact ⟨env, S1, Qd, s.mono x1 R1, q1, fun b S2 H2 x2 R2 q2 => f b S2 H2 (x1.trans x2) R2 q2⟩
  | true =>
    rw [if_pos rfl] at q1 ⊢
    exact f _ _ _ x1 R1 q1
theorem dt_not (ha : DT X B a mA) : DT X B (.UnaryOp .Not a pos) (dNot mA) := PT_imp (pt_not ha) fun σ H Q ⟨env, S, Qd, s, q, f⟩ =>
  ⟨env, S, _, s, q, fun c S1 H1 x1 R1 q1 => f _ _ _ x1 R1 q1⟩
theorem dw_t (h : DW X B e mA) : DT X B e mA := h.pt
/-- .. as values -/
def dAndV (t u : ME) : ME := fun env S Q => t env S fun x S1 => match x with
  | .bl true => u env S1 Q
  | .bl false => Q (.bl false) S1
  | _ => False
def dOrV (t u : ME) : ME := fun env S Q => t env S fun x S1 => match x with
  | .bl false => u env S1 Q
  | .bl true => Q (.bl true) S1
  | _ => False
def dNotV (t : ME) : ME := fun env S Q => t env S fun x S1 => match x with
  | .bl c => Q (.bl (!c)) S1
  | _ => False
theorem de_one {op} (h : DE X B a ma) : DE X B (.BoolOp op [a] pos) ma := pe_one h
theorem de_and (ha : DE X B a ma) (hb : DE X B (.BoolOp .And (b :: rest) pos) mb) : DE X B (.BoolOp .And (a :: b :: rest) pos) (dAndV ma mb) := PE_imp (pe_and ha hb) fun σ H Q ⟨env, S, Qd, s, q, f⟩ => by
  refine ⟨env, S, _, s, q, fun x S1 v H1 x1 R1 r1 q1 => ?_⟩
  cases x with
  | bl c =>
    cases r1
    refine ⟨c, rfl, ?_⟩
    cases c with
    | true => rw [if_pos rfl]; exact ⟨env, S1, Qd, s.mono x1 R1, q1, f.after x1⟩
    | false => rw [if_neg Bool.false_ne_true]; exact (f.after x1).here R1 (.bl false) q1
  | _ => exact q1.elim
theorem de_or (ha : DE X B a ma) (hb : DE X B (.BoolOp .Or (b :: rest) pos) mb) : DE X B (.BoolOp .Or (a :: b :: rest) pos) (dOrV ma mb) := PE_imp (pe_or ha hb) fun σ H Q ⟨env, S, Qd, s, q, f⟩ => by
  refine ⟨env, S, _, s, q, fun x S1 v H1 x1 R1 r1 q1 => ?_⟩
  cases x with
  | bl c =>
    cases r1
    refine ⟨c, rfl, ?_⟩
    cases c with
    | false => rw [if_neg Bool.false_ne_true]; exact ⟨env, S1, Qd, s.mono x1 R1, q1, f.after x1⟩
    | true => rw [if_pos rfl]; exact (f.after x1).here R1 (.bl true) q1
  | _ => exact q1.elim
theorem de_not (ha : DE X B a ma) : DE X B (.UnaryOp .Not a pos) (dNotV ma) := PE_imp (pe_not ha) fun σ H Q ⟨env, S, Qd, s, q, f⟩ => by
  refine ⟨env, S, _, s, q, fun x S1 v H1 x1 R1 r1 q1 => ?_⟩
  cases x with
  | bl c => cases r1; exact ⟨c, rfl, (f.after x1).here R1 (.bl _) q1⟩
  | _ => exact q1.elim
def dIfE (t : MT) (u v : ME) : ME := fun env S Q => t env S fun c S1 => if c = true then u env S1 Q else v env S1 Q
theorem de_ifExp (hc : DT X B c mA) (ha : DE X B a ma) (hb : DE X B b mb) : DE X B (.IfExp c a b pos) (dIfE mA ma mb) := PE_imp (pe_ifExp hc ha hb) fun σ H Q ⟨env, S, Qd, s, q, f⟩ => by
  refine ⟨env, S, _, s, q, fun c S1 H1 x1 R1 q1 => ?_⟩
  cases c with
  | true => rw [if_pos rfl] at q1 ⊢; exact ⟨env, S1, Qd, s.mono x1 R1, q1, f.after x1⟩
  | false => rw [if_neg Bool.false_ne_true] at q1 ⊢; exact ⟨env, S1, Qd, s.mono x1 R1, q1, f.after x1⟩
end
end DL
namespace DL
open PySem PySem.Spec PyProof.Rows L2
/-! ### statements -/
section
variable {X : Cx} {B : Bs} {a b c e : Expr} {ma mb : ME} {mA : MT} {pos : Pos} {st : Stmt} {rest body : List Stmt} {t u : MS}
def dNext : MS := fun D env S => D.nx env S
def dSeq (t u : MS) : MS := fun D env S => t { D with nx := u D } env S
theorem dss_nil : DSs X B [] dNext := PSs_imp pss_nil fun D σ H ⟨env, S, Dd, s, q, f⟩ => f.nx env S σ H Ext.refl s q
theorem dss_cons (h1 : DS X B st t) (h2 : DSs X B rest u) : DSs X B (st :: rest) (dSeq t u) := PSs_imp (pss_cons h1 h2) fun D σ H ⟨env, S, Dd, s, q, f⟩ =>
  ⟨env, S, _, s, q, fun env' S' σ' H' x' s' q' => ⟨env', S', Dd, s', q', f.after x'⟩, f.rt, f.bk, f.ct⟩
theorem dss_one (h1 : DS X B st t) : DSs X B [st] t := pss_one h1
def dBreak : MS := fun D env S => D.bk env S
def dCont : MS := fun D env S => D.ct env S
theorem ds_pass : DS X B (.Pass pos) dNext := PS_imp ps_pass fun D σ H ⟨env, S, Dd, s, q, f⟩ => f.nx env S σ H Ext.refl s q
theorem ds_break : DS X B (.Break pos) dBreak := PS_imp ps_break fun D σ H ⟨env, S, Dd, s, q, f⟩ => f.bk env S σ H Ext.refl s q
theorem ds_continue : DS X B (.Continue pos) dCont := PS_imp ps_continue fun D σ H ⟨env, S, Dd, s, q, f⟩ => f.ct env S σ H Ext.refl s q
def dDrop (m : ME) : MS := fun D env S => m env S fun _ S1 => D.nx env S1
theorem ds_expr (he : DE X B e ma) (hs : swapsWith e none pos.line X.env = pure false := by rfl) : DS X B (.Expr e pos) (dDrop ma) := PS_imp (ps_expr he hs) fun D σ H ⟨env, S, Dd, s, q, f⟩ =>
  ⟨env, S, _, s, q, fun d S1 v H1 x1 R1 r1 q1 => f.nx env S1 σ H1 x1 (s.mono x1 R1) q1⟩
theorem ds_doc {x : Str} {j : Nat} {pos' : Pos} : DS X B (.Expr (.Constant (.str x) j pos) pos') dNext := PS_imp ps_doc fun D σ H ⟨env, S, Dd, s, q, f⟩ => f.nx env S σ H Ext.refl s q
def dRet (m : ME) : MS := fun D env S => m env S D.rt
theorem ds_ret (he : DE X B e ma) : DS X B (.Return (some e) pos) (dRet ma) := PS_imp (ps_ret he) fun D σ H ⟨env, S, Dd, s, q, f⟩ =>
  ⟨env, S, _, s, q, fun d S1 v H1 x1 R1 r1 q1 => f.rt d S1 v H1 x1 R1 r1 q1⟩
def dRetN : MS := fun D _ S => D.rt .non S
theorem ds_retN : DS X B (.Return none pos) dRetN := PS_imp ps_retN fun D σ H ⟨env, S, Dd, s, q, f⟩ => f.rt .non S .non H Ext.refl s.rel .non q
def dIf (c : MT) (t u : MS) : MS := fun D env S => c env S fun b S1 => if b = true then t D env S1 else u D env S1
theorem ds_if {as bs : List Stmt} (hc : DT X B c mA) (ha : DSs X B as t) (hb : DSs X B bs u) : DS X B (.If c as bs pos) (dIf mA t u) := PS_imp (ps_if hc ha hb) fun D σ H ⟨env, S, Dd, s, q, f⟩ => by
  refine ⟨env, S, _, s, q, fun c S1 H1 x1 R1 q1 => ?_⟩
  cases c with
  | true => rw [if_pos rfl] at q1 ⊢; exact ⟨env, S1, Dd, s.mono x1 R1, q1, f.after x1⟩
  | false => rw [if_neg Bool.false_ne_true] at q1 ⊢; exact ⟨env, S1, Dd, s.mono x1 R1, q1, f.after x1⟩
def dNever : MS := fun _ _ _ => False
theorem ds_never : DS X B st dNever := PS_imp ps_never fun D σ H ⟨env, S, Dd, s, q, _⟩ => q
/-- a statement with a word of one's own about what stands behind it -/
def dCut (t u : MS) : MS := fun D env S => ∃ R : DEnv → Sto → Prop, t { D with nx := R } env S ∧ ∀ env' S', R env' S' → u D env' S'
theorem dss_cut (h1 : DS X B st t) (h2 : DSs X B rest u) : DSs X B (st :: rest) (dCut t u) := PSs_imp (pss_cons h1 h2) fun D σ H ⟨env, S, Dd, s, ⟨R, q, k⟩, f⟩ =>
  ⟨env, S, { Dd with nx := R }, s, q, fun env' S' σ' H' x' s' q' => ⟨env', S', Dd, s', k env' S' q', f.after x'⟩, f.rt, f.bk, f.ct⟩
/-! ### targets -/
abbrev MG := D → DEnv → Sto → (DEnv → Sto → Prop) → Prop
abbrev MGs := List D → DEnv → Sto → (DEnv → Sto → Prop) → Prop
def cG (K : Kz) (B : Bs) (m : MG) : TG := fun v σ H Q => ∃ d env S Qd, StOk K B S H env σ ∧ Rep K S H d v ∧ m d env S Qd ∧ ∀ env' S' σ' H', Ext S H S' H' → StOk K B S' H' env' σ' → Qd env' S' → Q σ' H'
def cGs (K : Kz) (B : Bs) (m : MGs) : TGs := fun vs σ H Q => ∃ ds env S Qd, StOk K B S H env σ ∧ RepL K S H ds vs ∧ m ds env S Qd ∧ ∀ env' S' σ' H', Ext S H S' H' → StOk K B S' H' env' σ' → Qd env' S' → Q σ' H'
abbrev DG (X : Cx) (B : Bs) (tg : Expr) (m : MG) : Prop := PG X tg (cG (kz X B) B m)
abbrev DGs (X : Cx) (B : Bs) (tgs : List Expr) (m : MGs) : Prop := PGs X tgs (cGs (kz X B) B m)
theorem PG_imp {X : Cx} {e : Expr} {t t' : TG} (h : PG X e t) (i : ∀ v σ H Q, t' v σ H Q → t v σ H Q) : PG X e t' := ⟨fun pins s σ H v u Q I r q => h.run pins s σ H v u Q I r (i v σ H Q q)⟩
theorem PGs_imp {X : Cx} {e : List Expr} {t t' : TGs} (h : PGs X e t) (i : ∀ v σ H Q, t' v σ H Q → t v σ H Q) : PGs X e t' := ⟨fun pins s σ H v u Q I r q => h.run pins s σ H v u Q I r (i v σ H Q q)⟩
def dgName (i : Nat) : MG := fun d env S Q => Q (env.set i (some d)) S
theorem dg_name (i : Nat) {x : Str} (hN : X.N.Nodup) (hi : X.N[i]? = some x := by rfl) (hx : Loc X.env.scope x := by first | exact Or.inl rfl | exact Or.inr rfl) (hf : X.fn x = true ∨ X.env.scope.names.lookup x = some .local := by first | exact .inl rfl | exact .inr rfl) : DG X B (.Name x pos) (dgName i) :=
  PG_imp (pg_name hN hi hx hf) fun v σ H Q ⟨d, env, S, Qd, s, r, q, f⟩ => f _ S _ H Ext.refl (s.set r i) q
def dgNil : MGs := fun ds env S Q => ds = [] ∧ Q env S
def dgCons (t : MG) (u : MGs) : MGs := fun ds env S Q => match ds with
  | d :: r => t d env S fun env' S' => u r env' S' Q
  | [] => False
theorem dgs_nil : DGs X B [] dgNil := PGs_imp pgs_nil fun v σ H Q ⟨ds, env, S, Qd, s, r, ⟨e, q⟩, f⟩ => by
  subst e
  cases r
  exact ⟨rfl, f _ _ _ _ Ext.refl s q⟩
theorem dgs_cons {es : List Expr} {t : MG} {u : MGs} (h1 : DG X B e t) (h2 : DGs X B es u) (hs : (assignEach (e :: es) X.env).map (·.2) = assign e X.env :: (assignEach es X.env).map (·.2) := by rfl) : DGs X B (e :: es) (dgCons t u) :=
  PGs_imp (pgs_cons h1 h2 hs) fun v σ H Q ⟨ds, env, S, Qd, s, r, q, f⟩ => by
  cases r with
  | nil => exact q.elim
  | cons r rr =>
    refine ⟨_, _, rfl, _, env, S, _, s, r, q, fun env1 S1 σ1 H1 x1 s1 q1 => ?_⟩
    exact ⟨_, env1, S1, _, s1, RepL.mono s.rel x1 _ _ rr, q1, fun env2 S2 σ2 H2 x2 s2 q2 => f env2 S2 σ2 H2 (x1.trans x2) s2 q2⟩
/-- (a, b, ..) = a tuple -/
def dgTup (n : Nat) (t : MGs) : MG := fun d env S Q => match d with
  | .tup ds => ds.length = n ∧ t ds env S Q
  | _ => False
theorem dg_tup {es : List Expr} {k : Nat} {t : MGs} {n : Nat} (hc : X.calm = true) (h : DGs X B es t) (hn : (assignEach es X.env).length = n := by rfl) (hst : (assignEach es X.env).findIdx? (·.1) = none := by rfl) : DG X B (.Tuple es k pos) (dgTup n t) :=
  PG_imp (pg_tup hc h hn hst) fun v σ H Q ⟨d, env, S, Qd, s, r, q, f⟩ => by
  cases d with
  | tup ds =>
    cases r with
    | tup sq z rr => exact ⟨_, _, rfl, sq.sq, by rw [← rr.length]; exact q.1, ds, env, S, Qd, s, rr, q.2, f⟩
  | _ => exact q.elim
/-- target = value -/
def dAsg (m : ME) (g : MG) : MS := fun D env S => m env S fun d S1 => g d env S1 D.nx
theorem tAsg_of {K : Kz} {m : ME} {g : MG} {D : Ends} {σ : L2.St} {H : Hp} (q : cS K B (dAsg m g) D σ H) : tAsg (cE K B m) (cG K B g) D σ H := by
  obtain ⟨env, S, Dd, s, q, f⟩ := q
  exact ⟨env, S, _, s, q, fun d S1 v H1 x1 R1 r1 q1 => ⟨d, env, S1, _, s.mono x1 R1, r1, q1, fun env' S' σ' H' x' s' q' => f.nx env' S' σ' H' (x1.trans x') s' q'⟩⟩
theorem ds_asg {tg : Expr} {g : MG} (he : DE X B e ma) (hg : DG X B tg g) (hs : swapsWithSole [tg] e pos.line X.env = pure false := by rfl) (hw : swappedStores [tg] e X.env = pure none := by rfl)
    (h1 : (assignEach [tg] X.env).map (·.2) = [assign tg X.env] := by rfl) : DS X B (.Assign [tg] e pos) (dAsg ma g) := PS_imp (ps_asg he hg hs hw h1) fun _ _ _ q => tAsg_of q
/-- name = value -/
def dSet (i : Nat) (m : ME) : MS := fun D env S => m env S fun d S1 => D.nx (env.set i (some d)) S1
theorem ds_set (i : Nat) {x : Str} {pos' : Pos} (hN : X.N.Nodup) (he : DE X B e ma) (hi : X.N[i]? = some x := by rfl) (hx : Loc X.env.scope x := by first | exact Or.inl rfl | exact Or.inr rfl) (hs : swapsWith e (some (.Name x pos')) pos.line X.env = pure false := by rfl)
    (hf : X.fn x = true ∨ X.env.scope.names.lookup x = some .local := by first | exact .inl rfl | exact .inr rfl) : DS X B (.Assign [.Name x pos'] e pos) (dSet i ma) := PS_imp (ps_set hN hi hx he hs hf) fun D σ H ⟨env, S, Dd, s, q, f⟩ =>
  ⟨env, S, _, s, q, fun d S1 v H1 x1 R1 r1 q1 => f.nx _ S1 _ H1 x1 ((s.mono x1 R1).set r1 i) q1⟩
end
/-! ### settling ahead of a statement or an expression, and behind a value -/
/-- d' tells the same value as d, by a part of the store -/
inductive Low (S S' : Sto) : D → D → Prop
  | same (d : D) : Low S S' d d
  | lst {a : Addr} {ds : List D} : S a = some (.lst ds) → S' a = none → Low S S' (.ref a) (.lst ds)
  | obj {a C : Addr} {ns : List Str} {ds : List D} : S a = some (.obj C ns ds) → S' a = none → Low S S' (.ref a) (.obj C ns ds)
theorem Low.rep {K : Kz} {S S' : Sto} {H : Hp} {d d' : D} {v : V} (l : Low S S' d d') (R : Rel K S H) (h : Sub S' S) (r : Rep K S H d v) : Rep K S' H d' v := by
  cases l with
  | same => exact Rep.mono R h.ext _ _ r
  | lst e n => cases r; exact Rep.settle R h e n
  | obj e n => cases r; exact Rep.settleO R h e n
/-- what is wanted, of a lower telling -/
def lows (Q : DQ) : DQ := fun d S => ∃ d' S', Sub S' S ∧ Low S S' d d' ∧ Q d' S'
theorem Fin.low {K : Kz} {S : Sto} {H : Hp} {Qd : DQ} {Q : VK} (f : Fin K S H Qd Q) : Fin K S H (lows Qd) Q := fun d S' v H' x R r ⟨d', S2, sb, l, q⟩ =>
  f d' S2 v H' (x.trans sb.ext) (R.sub sb) (l.rep R sb r) q
/-- an expression whose value is told lower (a list that was made is settled) -/
def dLow (m : ME) : ME := fun env S Q => m env S (lows Q)
theorem de_low {X : Cx} {B : Bs} {e : Expr} {m : ME} (h : DE X B e m) : DE X B e (dLow m) := PE_imp h fun σ H Q ⟨env, S, Qd, s, q, f⟩ => ⟨env, S, _, s, q, f.low⟩
/-- the list at a is settled: the new environment tells the same slots -/
inductive LowE (S S' : Sto) : DEnv → DEnv → Prop
  | nil : LowE S S' [] []
  | keep {d d' : D} {e e' : DEnv} : Low S S' d d' → LowE S S' e e' → LowE S S' (some d :: e) (some d' :: e')
  | gone {d : Option D} {e e' : DEnv} : LowE S S' e e' → LowE S S' (d :: e) (none :: e')
theorem LowE.get {S S' : Sto} : ∀ {e e' : DEnv}, LowE S S' e e' → e'.length = e.length ∧ ∀ (i : Nat) d', e'[i]? = some (some d') → ∃ d, e[i]? = some (some d) ∧ Low S S' d d'
  | _, _, .nil => ⟨rfl, fun i d' h => by simp at h⟩
  | _, _, .keep l r => by
    obtain ⟨h1, h2⟩ := r.get
    refine ⟨by rw [List.length_cons, List.length_cons, h1], fun i d' h => ?_⟩
    cases i with
    | zero => cases h; exact ⟨_, rfl, l⟩
    | succ i => exact h2 i d' h
  | _, _, .gone r => by
    obtain ⟨h1, h2⟩ := r.get
    refine ⟨by rw [List.length_cons, List.length_cons, h1], fun i d' h => ?_⟩
    cases i with
    | zero => cases h
    | succ i => exact h2 i d' h
def dLowS (t : MS) : MS := fun D env S => ∃ env' S', Sub S' S ∧ LowE S S' env env' ∧ t D env' S'
theorem StOk.low {K : Kz} {B : Bs} {S S' : Sto} {H : Hp} {env env' : DEnv} {σ : L2.St} (s : StOk K B S H env σ) (sb : Sub S' S) (l : LowE S S' env env') : StOk K B S' H env' σ := by
  obtain ⟨h1, h2⟩ := l.get
  refine ⟨⟨h1.trans s.env.len, fun i d' h => ?_⟩, s.rel.sub sb, s.base.trans sb.ext⟩
  obtain ⟨d, hd, lo⟩ := h2 i d' h
  obtain ⟨v, hv, r⟩ := s.env.get i d hd
  exact ⟨v, hv, lo.rep s.rel sb r⟩
theorem dss_low {X : Cx} {B : Bs} {sts : List Stmt} {t : MS} (h : DSs X B sts t) : DSs X B sts (dLowS t) := PSs_imp h fun D σ H ⟨env, S, Dd, s, ⟨env', S', sb, l, q⟩, f⟩ => ⟨env', S', Dd, s.low sb l, q, f.after sb.ext⟩
/-! ### defs: promises over trees -/
/-- what is wanted of an exception: its class, its fields, the store -/
abbrev DX := Addr → List Str → List D → Sto → Prop
abbrev DSp := List D → Sto → DQ → DX → Prop
/-- the exception's wish over the abstract heap -/
def cX (K : Kz) (S : Sto) (H : Hp) (Ed : DX) : XK := fun cls dd H' => ∃ C d ns ds vs S', cls = .ref C ∧ dd = some d ∧ H' d = some (.xd (ns.zip vs)) ∧ ns.length = vs.length ∧ RepL K S' H' ds vs ∧ Ext S H S' H' ∧ Rel K S' H' ∧ Ed C ns ds S'
/-- the def at f keeps p. A call of it runs where no display of an object is under way -/
structure DFn (P : Program) (w : World) (K : PySem.W.Frag) (mg : Str → Option Value) (base : Heap) (k : Nat) (f : Addr) (fd : FuncData) (ps : List Str) (p : DSp) : Prop where
  len : ∀ ds S Q E, p ds S Q E → ds.length = ps.length
  run : ∀ (A : Around) (outer : List Env) (s : Shared) (H : Hp) (args : Args) (us : List Value) (vs : List V) (ds : List D) (S : Sto) (Qd : DQ) (Ed : DX) (Q : VK) (Z : Addr → Prop), Room k A → A.guards = some [] → Env0 P w K mg base A outer s H → BindsTo s fd args (ps.zip us) → Vals vs us →
    RepL ⟨K, Z⟩ S H ds vs → Rel ⟨K, Z⟩ S H → p ds S Qd Ed → Fin ⟨K, Z⟩ S H Qd Q → codeAny (model P w) A (.call (.ref f) args) (CR (L2.CX P w) outer P w H s Q (cX ⟨K, Z⟩ S H Ed)) s
theorem DFn.mono {P : Program} {w : World} {K : PySem.W.Frag} {mg : Str → Option Value} {base : Heap} {j k : Nat} {f : Addr} {fd : FuncData} {ps : List Str} {p : DSp} (F : DFn P w K mg base j f fd ps p) (h : j ≤ k) : DFn P w K mg base k f fd ps p :=
  ⟨F.len, fun A outer s H args us vs ds S Qd Ed Q Z hr => F.run A outer s H args us vs ds S Qd Ed Q Z (hr.mono h)⟩
theorem DFn.imp {P : Program} {w : World} {K : PySem.W.Frag} {mg : Str → Option Value} {base : Heap} {k : Nat} {f : Addr} {fd : FuncData} {ps : List Str} {p p' : DSp} (F : DFn P w K mg base k f fd ps p) (h : ∀ ds S Q E, p' ds S Q E → p ds S Q E) : DFn P w K mg base k f fd ps p' :=
  ⟨fun ds S Q E q => F.len ds S Q E (h _ _ _ _ q), fun A outer s H args us vs ds S Qd Ed Q Z hr hg e b v r R q fi => F.run A outer s H args us vs ds S Qd Ed Q Z hr hg e b v r R (h _ _ _ _ q) fi⟩
/-- a def by its body. B: the state at its entry -/
theorem dfn_core {P : Program} {w : World} {K : PySem.W.Frag} {mg : Str → Option Value} {base : Heap} {x qual : Str} {st : Stmt} {f : Addr} {fd : FuncData} {N ps : List Str} {k : Nat} {p : DSp} {oc dV kV doc pm cdv0 ct : Value} {od an : Option Addr} {osl : Array (Option Value)} (ef : fd = PySem.W.fnOf x qual (defArgs st) (defBody st) (defScope st) dV kV doc pm an cdv0 ct) (lk : K.lookup f = some ⟨oc, od, .func fd, osl⟩) (hcd : PySem.W.codeIn K cdv0 qual = true) (SC : FnScope N ps (defScope st)) (len : ∀ ds S Q E, p ds S Q E → ds.length = ps.length)
    (hbody : ∀ (cdv : Value) (A : Around) (outer : List Env) (s : Shared) (B : Bs) (Ed : DX), Room k (A.deeper (envOfC qual (defScope st) s.heap.objs.size f cdv)) → A.guards = some [] →
      ∃ t, DSs (cxOf (L2.CX P w) P w K mg base N qual (defScope st) f cdv A outer s B.H (cX ⟨K, B.Z⟩ B.S B.H Ed)) B (defBody st) t ∧
        ∀ ds Q, p ds B.S Q Ed → t { nx := fun _ S' => lows Q .non S', rt := lows Q } (ds.map some ++ List.replicate (N.length - ps.length) none) B.S) : DFn P w K mg base (k + 1) f fd ps p := by
  refine ⟨len, fun A outer s H args us vs ds S Qd Ed Q Z hr hg e0 hb hv hrep hrel hp hf => ?_⟩
  have hlen : vs.length = ps.length := by rw [← hrep.length]; exact len _ _ _ _ hp
  subst ef
  have inK : K.In s.heap := e0.mod.kin.keeps fun b o z => (e0.bs b o z).1
  refine codeAny_call_function hr.depth (inK _ _ lk) rfl SC.co SC.gen rfl (PySem.W.codeRec_of inK hcd) (hb _ _ _ _ ?_)
  have kinds : ∀ y ∈ ps.zip us, (defScope st).names.lookup y.1 = some .local ∨
      ((defScope st).names.lookup y.1 = some .cell ∧ ((cellsFrom (s.heap.objs.size + 1) (defScope st).names []).lookup y.1).isSome = true) := by
    intro y hy
    cases SC.par y.1 (List.of_mem_zip hy).1 with
    | inl z => exact .inl z
    | inr z => exact .inr ⟨z, PySem.W.cellsFrom_some _ _ _ (.inl z)⟩
  refine wpAny_newFunctionEnv_cells SC.kind kinds fun env he s1 entered => ?_
  subst he
  have lim0 : s.heap.NoLimit := e0.mod.nolimit.keeps fun b o z => (e0.bs b o z).1
  refine ⟨lim0.keeps entered.toInCall.keep, codeAny_func ?_⟩
  obtain ⟨t, body, reads⟩ := hbody cdv0 A outer s ⟨S, H, Z⟩ Ed (hr.deeper _) hg
  have J := inv_start (CX := L2.CX P w) (P := P) (E := cX ⟨K, Z⟩ S H Ed) SC hr.hd e0 hlen hv entered
  have stok : StOk ⟨K, Z⟩ ⟨S, H, Z⟩ S H (ds.map some ++ List.replicate (N.length - ps.length) none) (L2.start N vs) := by
    refine ⟨⟨?_, fun i d h => ?_⟩, hrel, Ext.refl⟩
    · unfold L2.start
      rw [List.length_append, List.length_append, List.length_map, List.length_map, List.length_replicate, List.length_replicate, hrep.length, hlen]
    · by_cases hi : i < ds.length
      · rw [List.getElem?_append_left (by rw [List.length_map]; exact hi), List.getElem?_map] at h
        cases e : ds[i]? with
        | none => rw [e] at h; cases h
        | some d' =>
          rw [e] at h; cases h
          obtain ⟨v, hv', r⟩ := hrep.get e
          refine ⟨v, ?_, r⟩
          unfold L2.start
          rw [List.getElem?_append_left (by rw [List.length_map, ← hrep.length]; exact hi), List.getElem?_map, hv']
          rfl
      · rw [List.getElem?_append_right (by rw [List.length_map]; omega), List.getElem?_replicate] at h
        split at h <;> cases h
  have rd : cS ⟨K, Z⟩ ⟨S, H, Z⟩ t { nx := fun _ H' => Q .non H', rt := Q } (L2.start N vs) H := by
    refine ⟨_, S, _, stok, reads ds Qd hp, fun env' S' σ' H' x' s' q' => ?_, fun d S' v H' x' R' r' q' => ?_, fun _ _ _ _ _ _ z => z, fun _ _ _ _ _ _ z => z⟩
    · exact hf.low .non S' .non H' x' s'.rel .non q'
    · exact hf.low d S' v H' x' R' r' q'
  refine wpAny_mono (body.run [] s1 (L2.start N vs) H _ J rd) (fun fl s' hs => ?_) fun e s' hs => hs
  cases fl with
  | next => obtain ⟨σ', H', J', q⟩ := hs; exact ⟨.non, H', J'.os, J'.bare, J'.base, J'.hok, rfl, q⟩
  | ret u => obtain ⟨v, σ', H', J', rv, q⟩ := hs; exact ⟨v, H', J'.os, J'.bare, J'.base, J'.hok, rv, q⟩
  | brk => obtain ⟨_, _, _, q⟩ := hs; exact q.elim
  | cont => obtain ⟨_, _, _, q⟩ := hs; exact q.elim
/-- THE RULE: a def by its body. B: the state at its entry -/
theorem dfn_of {P : Program} {w : World} {K : PySem.W.Frag} {mg : Str → Option Value} {base : Heap} {x qual : Str} {st : Stmt} {f : Addr} {fd : FuncData} {N ps : List Str} {k : Nat} {p : DSp} (F : Fun K x qual st f fd) (SC : FnScope N ps (defScope st)) (len : ∀ ds S Q E, p ds S Q E → ds.length = ps.length)
    (hbody : ∀ (cdv : Value) (A : Around) (outer : List Env) (s : Shared) (B : Bs) (Ed : DX), Room k (A.deeper (envOfC qual (defScope st) s.heap.objs.size f cdv)) → A.guards = some [] →
      ∃ t, DSs (cxOf (L2.CX P w) P w K mg base N qual (defScope st) f cdv A outer s B.H (cX ⟨K, B.Z⟩ B.S B.H Ed)) B (defBody st) t ∧
        ∀ ds Q, p ds B.S Q Ed → t { nx := fun _ S' => lows Q .non S', rt := lows Q } (ds.map some ++ List.replicate (N.length - ps.length) none) B.S) : DFn P w K mg base (k + 1) f fd ps p := by
  obtain ⟨oc, od, kV, doc, pm, an, cdv, ct, osl, e, lk, hcd⟩ := F.ex
  exact dfn_core e lk hcd SC len hbody
end DL
namespace DL
open PySem PySem.Spec PyProof.Rows L2
/-! ### what leaves a body -/
abbrev WD := Addr → List Str → List D → DEnv → Sto → Prop
def cW (K : Kz) (B : Bs) (Wd : WD) : WX := fun cls dd σ H' => ∃ C d ns ds vs env S', cls = .ref C ∧ dd = some d ∧ H' d = some (.xd (ns.zip vs)) ∧ ns.length = vs.length ∧ RepL K S' H' ds vs ∧ StOk K B S' H' env σ ∧ Wd C ns ds env S'
abbrev DTk (X : Cx) (B : Bs) (Wd : WD) : Prop := Takes X (cW (kz X B) B Wd)
abbrev wNo : WD := fun _ _ _ _ _ => False
abbrev wX (Ed : DX) : WD := fun C ns ds _ S => Ed C ns ds S
theorem dtk0 {X : Cx} {B : Bs} : DTk X B wNo := takes0.imp fun c d σ H ⟨_, _, _, _, _, _, _, _, _, _, _, _, _, z⟩ => z
/-- a def's body lets out what its caller wishes -/
theorem dtk_body {P : Program} {w : World} {K : PySem.W.Frag} {mg : Str → Option Value} {base : Heap} {N : List Str} {qual : Str} {sc : Scope} {f : Addr} {cdv : Value} {A : Around} {outer : List Env} {s : Shared} {B : Bs} {Ed : DX} :
    DTk (cxOf (L2.CX P w) P w K mg base N qual sc f cdv A outer s B.H (cX ⟨K, B.Z⟩ B.S B.H Ed)) B (wX Ed) :=
  (takes_of rfl rfl rfl rfl).imp fun cls dd σ H ⟨C, d, ns, ds, vs, env, S', e1, e2, e3, e4, e5, e6, e7⟩ => ⟨C, d, ns, ds, vs, S', e1, e2, e3, e4, e5, e6.base, e6.rel, e7⟩
section
variable {X : Cx} {B : Bs} {k : Nat} {f C : Addr} {fd : FuncData} {ps : List Str} {p : DSp} {dds : List D} {dvs : List V} {dus : List Value} {x m : Str} {pc pos apos : Pos} {e o : Expr} {es : List Expr} {ma : ME} {mr : MA} {Wd : WD}
/-- values that are read in every heap -/
def Closed (K : Kz) (ds : List D) (vs : List V) : Prop := ∀ S H, RepL K S H ds vs
theorem closed_nil {K : Kz} : Closed K [] [] := fun _ _ => .nil
theorem run_dfn {pins : List (Addr × Obj)} {σ : L2.St} {H : Hp} {s : Shared} {env : DEnv} {S : Sto} {Q : VK} {Qd : DQ} {us : List Value} {vs : List V} {ds : List D} (F : DFn X.prog X.w X.K X.mg X.base k f fd ps p) (hr : Room k X.A) (hgd : X.A.guards = some [])
    (hb : Binds X.K fd ps dus) (hd : Vals dvs dus) (hc : Closed (kz X B) dds dvs) (tk : DTk X B Wd) (I : Inv X pins σ H s) (st : StOk (kz X B) B S H env σ) (r : Vals vs us) (rd : RepL (kz X B) S H ds vs) (q : p (ds ++ dds) S Qd (fun C ns ds S' => Wd C ns ds env S')) (fi : Fin (kz X B) S H Qd Q) :
    wpAny (model X.prog X.w) X.A (call (.ref f) us) (EP X pins σ Q) X.xe s := by
  have r2 : Vals (vs ++ dvs) (us ++ dus) := r.append hd
  have rd2 : RepL (kz X B) S H (ds ++ dds) (vs ++ dvs) := rd.append (hc S H)
  have hl : (us ++ dus).length = ps.length := by rw [← r2.length, ← rd2.length]; exact F.len _ _ _ _ q
  refine wpAny_call (codeAny_mono (F.run X.A X.stack s H ⟨us, []⟩ (us ++ dus) (vs ++ dvs) (ds ++ dds) S Qd (fun C ns ds S' => Wd C ns ds env S') Q B.Z hr hgd I.env0 (hb s us I.kIn hl) r2 rd2 st.rel q fi) fun res s' hq => ?_)
  match res, hq with
  | .ok (.ret u), hq => exact I.after hq
  | .ok .next, hq => exact hq.elim
  | .ok .brk, hq => exact hq.elim
  | .ok .cont, hq => exact hq.elim
  | .error ex, hq =>
    refine tk _ _ (XE.of_call I (fun cls d H' z => ?_) hq)
    obtain ⟨C, d', ns, ds', vs', S', e1, e2, e3, e4, e5, e6, e7, e8⟩ := z
    exact ⟨C, d', ns, ds', vs', env, S', e1, e2, e3, e4, e5, st.mono e6 e7, e8⟩
/-- f(..): the arguments, the defaults dds -/
def dCall (p : DSp) (dds : List D) (Wd : WD) (t : MA) : ME := fun env S Q => t env S fun ds S1 => p (ds ++ dds) S1 Q (fun C ns ds S' => Wd C ns ds env S')
theorem de_call (F : DFn X.prog X.w X.K X.mg X.base k f fd ps p) (hr : Room k X.A) (hgd : X.A.guards = some []) (hg : Gl X x) (hm : X.mg x = some (.ref f)) (hk : PySem.W.keepIn X.K (.ref f) = true) (hb : Binds X.K fd ps dus) (hd : Vals dvs dus) (hc : Closed (kz X B) dds dvs) (tk : DTk X B Wd)
    (ha : DA X B (e :: es) mr) (hdb : (x == ("__debug__" : Str)) = false := by decide) (he : starEach (e :: es) X.env = (false, eval e X.env) :: starEach es X.env := by rfl) (hpl : (backTo pos (starEach es X.env)).any (·.1) = false := by rfl) :
    DE X B (.Call (.Name x pc) (e :: es) [] pos) (dCall p dds Wd mr) := by
  refine ⟨fun pins s σ H Q I ⟨env, S, Qd, st, q, fi⟩ => ?_⟩
  have args : cA (kz X B) B mr σ H fun vs H1 => ∃ ds S1, RepL (kz X B) S1 H1 ds vs ∧ StOk (kz X B) B S1 H1 env σ ∧ p (ds ++ dds) S1 Qd (fun C ns ds S' => Wd C ns ds env S') ∧ Fin (kz X B) S1 H1 Qd Q :=
    ⟨env, S, _, st, q, fun ds S1 vs H1 x1 R1 r1 q1 => ⟨ds, S1, r1, st.mono x1 R1, q1, fi.after x1⟩⟩
  refine wpAny_Call_Name_kw (ld_glob I hg hm ?_ hdb)
  refine PySem.W.callWith_K (h₀ := X.base) I.ok.mod.kin hk (thn (ha.run pos pins s σ H _ I args) fun us s1 ⟨vs, H1, I1, r, ds, S1, rd, st1, q1, f1⟩ => ⟨I1.kIn, ?_⟩) he hpl
  exact run_dfn F hr hgd hb hd hc tk I1 st1 r rd q1 f1
theorem de_call0 (F : DFn X.prog X.w X.K X.mg X.base k f fd ps p) (hr : Room k X.A) (hgd : X.A.guards = some []) (hg : Gl X x) (hm : X.mg x = some (.ref f)) (hk : PySem.W.keepIn X.K (.ref f) = true) (hb : Binds X.K fd ps dus) (hd : Vals dvs dus) (hc : Closed (kz X B) dds dvs) (tk : DTk X B Wd)
    (hdb : (x == ("__debug__" : Str)) = false := by decide) : DE X B (.Call (.Name x pc) [] [] pos) (dCall p dds Wd dNil) := by
  refine ⟨fun pins s σ H Q I ⟨env, S, Qd, st, q, fi⟩ => ?_⟩
  refine wpAny_Call_Name_kw (ld_glob I hg hm ?_ hdb)
  exact PySem.W.callWith_K0 I.kIn hk (run_dfn (us := []) (ds := []) F hr hgd hb hd hc tk I st .nil .nil q fi)
/-! ### calls of built-in functions -/
abbrev DN := List D → Sto → DQ → Prop
def CallD (K : Kz) (r : List V → Hp → VK → Prop) (p : DN) : Prop := ∀ (S : Sto) (H : Hp) ds vs Qd Q, Rel K S H → RepL K S H ds vs → p ds S Qd → Fin K S H Qd Q → r vs H Q
def dCB (p : DN) (t : MA) : ME := fun env S Q => t env S fun ds S1 => p ds S1 Q
theorem tCB_of {K : Kz} {r : List V → Hp → VK → Prop} {p : DN} (h : CallD K r p) {σ : L2.St} {H : Hp} {Q : VK} (q : cE K B (dCB p mr) σ H Q) : tCB r (cA K B mr) σ H Q := by
  obtain ⟨env, S, Qd, s, q, f⟩ := q
  exact ⟨env, S, _, s, q, fun ds S1 vs H1 x1 R1 r1 q1 => h S1 H1 ds vs Qd Q R1 r1 q1 (f.after x1)⟩
theorem de_callB {id : String} {r : List V → Hp → VK → Prop} {pn : DN} (hc : CallR X (.builtin id) r) (h : CallD (kz X B) r pn) (hg : Gl X x) (hm : X.mg x = none) (hv : bootBuiltins x = some (.builtin id)) (ha : DA X B (e :: es) mr) (hn : x ≠ "__name__" := by decide) (hdb : (x == ("__debug__" : Str)) = false := by decide)
    (he : starEach (e :: es) X.env = (false, eval e X.env) :: starEach es X.env := by rfl) (hpl : (backTo pos (starEach es X.env)).any (·.1) = false := by rfl) : DE X B (.Call (.Name x pc) (e :: es) [] pos) (dCB pn mr) :=
  PE_imp (pe_callB hc hg hm hv ha hn hdb he hpl) fun _ _ _ q => tCB_of h q
theorem de_callTy {T : String} {r : List V → Hp → VK → Prop} {pn : DN} (hc : CallR X (.type T) r) (h : CallD (kz X B) r pn) (hg : Gl X x) (hm : X.mg x = none) (hv : bootBuiltins x = some (.type T)) (ha : DA X B (e :: es) mr) (hn : x ≠ "__name__" := by decide) (hdb : (x == ("__debug__" : Str)) = false := by decide)
    (he : starEach (e :: es) X.env = (false, eval e X.env) :: starEach es X.env := by rfl) (hpl : (backTo pos (starEach es X.env)).any (·.1) = false := by rfl) : DE X B (.Call (.Name x pc) (e :: es) [] pos) (dCB pn mr) :=
  PE_imp (pe_callTy hc hg hm hv ha hn hdb he hpl) fun _ _ _ q => tCB_of h q
end
/-! ### the law's end -/
theorem walk_dl {l : PySem.W.OpenLaw} {n k : Nat} {q : Program} {loose : List Str} {XP : (Str → Option Value) → Heap → Prop} {YP : World → Heap → Prop} {d : DefRec} {K : Params → PySem.W.Frag} {x : Str} {p : DSp}
    (hn : l.most = some n) (hn2 : n ≤ sizeLine) (hdf : d.params.defaults = []) (hr : Room k callerA) (hY : ∀ (w : World) (h : Heap), YP w h → (K w.params).In h)
    (F : ∀ (w : World) (mg : Str → Option Value) (fa : Addr) (h : Heap), (K w.params).In h → h.Ns mainGlobals mg → mg d.name = some (.ref fa) →
      ∃ fd : FuncData, (∀ (s : Shared) (u : Value), BindsTo s fd ⟨[u], []⟩ [(x, u)]) ∧ ∀ base : Heap, (K w.params).In base → base.Ns mainGlobals mg → DFn l.prog w (K w.params) mg base k fa fd [x] p)
    (hp : ∀ ns : List Int, ns.length ≤ n → ∀ S, p [.lst (ns.map D.int)] S (fun v _ => v = .bl true) fun _ _ _ _ => False) : PySem.W.WalkO q loose XP YP l.row.toRowW d [] (fun f vs => PySem.call f vs) := by
  refine Att.attach_call hn hdf fun w s₀ s₁ mg mb fa o pm cd doc a vs ns G Y ho hd hcd hmg hobj hints hlen hg => ?_
  have inK := hY w _ Y
  obtain ⟨fd, binds, fn⟩ := F w mg fa _ inK G.T.g hmg
  have rv := vals_ints hints
  have z : ns.length ≤ sizeLine := Nat.le_trans hlen hn2
  -- the script, told by a heap in which it alone may stand
  have go : ∀ H : Hp, (∀ b u, H b = some u → b = a ∧ u = .frz { cls := .type "list", data := .seq vs.toArray } (.lst (ns.map V.int))) → (∀ u, H a = some u → (K w.params).lookup a = none) →
      LsT ⟨K w.params, fun _ => False⟩ (fun _ => none) H a (ns.map V.int) → codeAny (model l.prog w) callerA (.call (.ref fa) ⟨[.ref a], []⟩) (fun r s' => r = .ok (.ret (.bool true)) ∧ OldK s₁.heap s'.heap ∧ s'.os = s₁.os ∧ AllBare s'.gens) s₁ := by
    intro H only nk ls
    have held : HOk l.prog w H s₁.heap := by
      intro b u hb
      obtain ⟨rfl, rfl⟩ := only b u hb
      exact ⟨hobj, by rw [List.length_map]; exact z, vs, _, rv, hobj⟩
    have other : ∀ {b : Addr} {ob : Obj}, s₁.heap.get? b = some ob → (∀ es ep, ob.data = .dict es ep → H b = none) := by
      intro b ob hb es ep hd'
      cases e : H b with
      | none => rfl
      | some u =>
        obtain ⟨rfl, _⟩ := only b u e
        rw [hobj] at hb
        cases hb
        cases hd'
    have spaces : ∀ {b : Addr} {mm : Str → Option Value}, s₁.heap.Ns b mm → (hidT s₁.heap H).Ns b mm := by
      intro b mm hb
      obtain ⟨ob, es, ep, h1, h2, h3⟩ := hb
      exact ⟨ob, es, ep, hidT_get h1 (other h1 es ep h2), h2, h3⟩
    have kept : (K w.params).In (hidT s₁.heap H) := by
      intro b ob hb
      refine hidT_get (inK b ob hb) ?_
      cases e : H b with
      | none => rfl
      | some u =>
        obtain ⟨rfl, _⟩ := only b u e
        rw [nk u e] at hb
        cases hb
    have md : Mod (K w.params) mg (hidT s₁.heap H) := by
      obtain ⟨mc, c1, c2⟩ := G.T.nolimit
      exact ⟨kept, spaces G.T.g, ⟨mb, spaces G.T.b, G.T.builtins⟩, mc, spaces c1, c2⟩
    have e0 : Env0 l.prog w (K w.params) mg (hidT s₁.heap H) callerA [] s₁ H :=
      ⟨rfl, md, fun b ob hb => of_hidT hb, Nat.le_of_eq (hidT_size _ _), trivial, fun b hb => (List.not_mem_nil hb).elim, held, .of_eq hg⟩
    have rep : RepL ⟨K w.params, fun _ => False⟩ (fun _ => none) H [.lst (ns.map D.int)] [.ref a] := by
      refine .cons (.lst ls (by rw [List.length_map]; exact z) ?_) .nil
      clear rv hints hlen z ls only
      induction ns with
      | nil => exact .nil
      | cons i r ih => exact .cons (.int i) ih
    refine codeAny_mono ((fn _ kept (spaces G.T.g)).run callerA [] s₁ H ⟨[.ref a], []⟩ [.ref a] [.ref a] _ (fun _ => none) _ _ (fun v _ => v = .bl true) (fun _ => False) hr rfl e0 (binds s₁ (.ref a)) (.cons rfl .nil) rep ⟨fun b ob hb => (nomatch hb), fun b z => False.elim z⟩
      (hp ns hlen _) fun dd S' v H' _ _ r q => by cases r <;> first | exact congrArg V.bl (D.bl.inj q) | cases q) fun r s' h => ?_
    match r, h with
    | .error e, h =>
      obtain ⟨_, _, _, _, _, _, _, _, _, _, _, _, zz⟩ := h
      obtain ⟨_, _, _, _, _, _, _, _, _, _, _, _, _, zzz⟩ := zz
      exact zzz.elim
    | .ok .next, h => exact h.elim
    | .ok .brk, h => exact h.elim
    | .ok .cont, h => exact h.elim
    | .ok (.ret u), h =>
      obtain ⟨v, H', os, bare, un, held', r', q⟩ := h
      obtain rfl : v = .bl true := q
      obtain rfl : u = Value.bool true := r'
      refine ⟨rfl, OldK.of_keep fun b ob hb => ?_, os, bare⟩
      cases e : H b with
      | none => exact un.keep b ob hb e (fun zz => (List.not_mem_nil zz).elim) fun zz => (List.not_mem_nil zz).elim
      | some u =>
        obtain ⟨rfl, rfl⟩ := only b u e
        obtain ⟨e2, _⟩ := held' b _ (un.frzs b _ _ e)
        rw [hobj] at hb
        cases hb
        exact e2
  cases e : (K w.params).lookup a with
  | some ob =>
    have e1 := inK a ob e
    rw [hobj] at e1
    cases e1
    exact go (fun _ => none) (fun b u hb => nomatch hb) (fun u hb => nomatch hb) (.inr ⟨_, vs.toArray, _, e, rfl, rfl, rfl, by rw [List.size_toArray, hints.length]; exact z, rv⟩)
  | none =>
    refine go (fun b => if b = a then some (.frz { cls := .type "list", data := .seq vs.toArray } (.lst (ns.map V.int))) else none) (fun b u hb => ?_) (fun _ _ => e) (.inl ⟨rfl, fun z => z, .inr ⟨_, if_pos rfl⟩⟩)
    by_cases h : b = a
    · rw [if_pos h] at hb
      exact ⟨h, (Option.some.inj hb).symm⟩
    · rw [if_neg h] at hb
      cases hb
end DL
namespace DL
open PySem PySem.Spec PyProof.Rows L2
/-! ### what is walked -/
/-- all that stood stands, but hidden lists -/
def ExtW (Z : Addr → Prop) (S : Sto) (H : Hp) (S' : Sto) (H' : Hp) : Prop := ∀ a o, H a = some o → S a = none → (H' a = some o ∧ S' a = none) ∨ (Z a ∧ ∃ ws, o = HO.lst ws)
theorem Ext.w {Z : Addr → Prop} {S S' : Sto} {H H' : Hp} (x : Ext S H S' H') : ExtW Z S H S' H' := fun a o h n => .inl (x a o h n)
section
variable {K : Kz} {S S' : Sto} {H H' : Hp}
theorem ExtW.nl {Z : Addr → Prop} (x : ExtW Z S H S' H') {a : Addr} {o : HO} (h : H a = some o) (n : S a = none) (hn : ∀ ws, o ≠ .lst ws) : H' a = some o ∧ S' a = none := (x a o h n).resolve_right fun ⟨_, ws, e⟩ => hn ws e
theorem ExtW.tup {Z : Addr → Prop} (R : Free S H) (x : ExtW Z S H S' H') {a : Addr} {vs : List V} (h : SqT K.K H a vs) : SqT K.K H' a vs := by
  rcases h with (h | ⟨o, h⟩) | h
  · exact .inl (.inl (x.nl h (R _ _ h rfl) fun _ z => nomatch z).1)
  · exact .inl (.inr ⟨o, (x.nl h (R _ _ h rfl) fun _ z => nomatch z).1⟩)
  · exact .inr h
theorem ExtW.tpt {Z : Addr → Prop} (R : Free S H) (x : ExtW Z S H S' H') {a : Addr} {vs : List V} (h : TpT K.K H a vs) : TpT K.K H' a vs := by
  rcases h with h | h
  · exact .inl (x.nl h (R _ _ h rfl) fun _ z => nomatch z).1
  · exact .inr h
theorem ExtW.lst (x : ExtW K.Z S H S' H') {a : Addr} {vs : List V} (h : LsT K S H a vs) : LsT K S' H' a vs := by
  rcases h with ⟨n, zz, h | ⟨o, h⟩⟩ | h
  · have q := (x a _ h n).resolve_right fun z => zz z.1
    exact .inl ⟨q.2, zz, .inl q.1⟩
  · have q := (x a _ h n).resolve_right fun z => zz z.1
    exact .inl ⟨q.2, zz, .inr ⟨o, q.1⟩⟩
  · exact .inr h
mutual
theorem Rep.monoW (R : Free S H) (x : ExtW K.Z S H S' H') : ∀ (d : D) (v : V), Rep K S H d v → Rep K S' H' d v
  | .non, _, h => by cases h; exact .non
  | .bl b, _, h => by cases h; exact .bl b
  | .int i, _, h => by cases h; exact .int i
  | .str z, _, h => by cases h; exact .str z
  | .ref a, _, h => by cases h; exact .ref a
  | .ty n, _, h => by cases h; exact .ty n
  | .tup ds, _, h => by
    cases h with
    | tup q z r => exact .tup (x.tpt R q) z (RepL.monoW R x _ _ r)
  | .lst ds, _, h => by
    cases h with
    | lst q z r => exact .lst (x.lst q) z (RepL.monoW R x _ _ r)
  | .obj C ns ds, _, h => by
    cases h with
    | obj n q z r => exact .obj (x.nl q n fun _ z => nomatch z).2 (x.nl q n fun _ z => nomatch z).1 z (RepL.monoW R x _ _ r)
  | .dK ks ds, _, h => by
    cases h with
    | dK n q z r => exact .dK (x.nl q n fun _ z => nomatch z).2 (x.nl q n fun _ z => nomatch z).1 z (RepL.monoW R x _ _ r)
  | .dT ks ds, _, h => by
    cases h with
    | dT n q z r => exact .dT (x.nl q n fun _ z => nomatch z).2 (x.nl q n fun _ z => nomatch z).1 z (RepL.monoW R x _ _ r)
theorem RepL.monoW (R : Free S H) (x : ExtW K.Z S H S' H') : ∀ (ds : List D) (vs : List V), RepL K S H ds vs → RepL K S' H' ds vs
  | [], _, h => by cases h; exact .nil
  | d :: ds, _, h => by
    cases h with
    | cons a b => exact .cons (Rep.monoW R x _ _ a) (RepL.monoW R x _ _ b)
end
end
/-- the iterator J yields the items ds, as long as ok is true of the store -/
def WalksD (K : Kz) (J : It) (ds : List D) (ok : Sto → Prop) (S0 : Sto) (H0 : Hp) : Prop := ∀ Z' : Addr → Prop, (∀ a, Z' a → K.Z a ∨ H0 a = none) → ∀ S H, ExtW Z' S0 H0 S H → Rel ⟨K.K, Z'⟩ S H → ok S → ∀ i,
  (∀ d, ds[i]? = some d → J.go i H ∧ ∀ x H', J.yld i H x H' → Ext S H S H' ∧ Rel ⟨K.K, Z'⟩ S H' ∧ Rep ⟨K.K, Z'⟩ S H' d x) ∧ (ds.length ≤ i → J.stop i H)
abbrev MI := DEnv → Sto → (List D → (Sto → Prop) → Sto → Prop) → Prop
def cI (K : Kz) (B : Bs) (m : MI) : TI := fun σ H R => ∃ env S Qd, StOk K B S H env σ ∧ m env S Qd ∧ ∀ ds ok S' J H', Ext S H S' H' → Rel K S' H' → WalksD K J ds ok S' H' → ds.length ≤ sizeLine → Qd ds ok S' → R J H'
abbrev DI (X : Cx) (B : Bs) (tg iter : Expr) (m : MI) : Prop := PI X tg iter (cI (kz X B) B m)
theorem PI_imp {X : Cx} {tg e : Expr} {t t' : TI} (h : PI X tg e t) (i : ∀ σ H R, t' σ H R → t σ H R) : PI X tg e t' := ⟨fun pins s σ H R I q => h.run pins s σ H R I (i σ H R q)⟩
abbrev okT : Sto → Prop := fun _ => True
section
variable {X : Cx} {B : Bs} {tg a b c e : Expr} {es : List Expr} {ma mb : ME} {mr : MA} {pc pos : Pos}
/-- over a list -/
def dwLst (m : ME) : MI := fun env S Q => m env S fun d S1 => match d with
  | .lst ds => Q ds okT S1
  | .ref a => match S1 a with
    | some (.lst ds) => Q ds (fun S => S a = some (.lst ds)) S1
    | _ => False
  | _ => False
def dwTup (m : ME) : MI := fun env S Q => m env S fun d S1 => match d with
  | .tup ds => Q ds okT S1
  | _ => False
theorem walks_lst' {K : Kz} {S : Sto} {H : Hp} {a : Addr} {vs : List V} {ds : List D} (R : Rel K S H) (l : LsT K S H a vs) (r : RepL K S H ds vs) : WalksD K (Itl K.K a) ds okT S H := fun Z' hz S' H' x R' _ i => by
  have l' := ExtW.lst (K := ⟨K.K, Z'⟩) x (l.hide hz)
  have r' := RepL.monoW (K := ⟨K.K, Z'⟩) R.fr x _ _ (RepL.hide hz _ _ r)
  refine ⟨fun d hd => ?_, fun h => ⟨vs, l'.sq, by rw [← r.length]; exact h⟩⟩
  obtain ⟨v, hv, rv⟩ := r'.get hd
  refine ⟨⟨vs, v, l'.sq, hv⟩, fun y H2 ⟨e, hy⟩ => ?_⟩
  subst e
  have := hy vs l'.sq
  rw [hv] at this; cases this
  exact ⟨Ext.refl, R', rv⟩
theorem walks_own {K : Kz} {S : Sto} {H : Hp} {a : Addr} {ds : List D} : WalksD K (Itl K.K a) ds (fun S => S a = some (.lst ds)) S H := fun Z' hz S' H' x R' o i => by
  obtain ⟨vs, q, z, r⟩ := R'.get a _ o
  refine ⟨fun d hd => ?_, fun h => ⟨vs, .inl (.inl q), by rw [← r.length]; exact h⟩⟩
  obtain ⟨v, hv, rv⟩ := r.get hd
  refine ⟨⟨vs, v, .inl (.inl q), hv⟩, fun y H2 ⟨e, hy⟩ => ?_⟩
  subst e
  have := hy vs (.inl (.inl q))
  rw [hv] at this; cases this
  exact ⟨Ext.refl, R', rv⟩
theorem walks_tup {K : Kz} {S : Sto} {H : Hp} {a : Addr} {vs : List V} {ds : List D} (R : Rel K S H) (l : SqT K.K H a vs) (r : RepL K S H ds vs) : WalksD K (Itt K.K a) ds okT S H := fun Z' hz S' H' x R' _ i => by
  have l' := ExtW.tup (K := K) R.fr x l
  have r' := RepL.monoW (K := ⟨K.K, Z'⟩) R.fr x _ _ (RepL.hide hz _ _ r)
  refine ⟨fun d hd => ?_, fun h => ⟨vs, l', by rw [← r.length]; exact h⟩⟩
  obtain ⟨v, hv, rv⟩ := r'.get hd
  refine ⟨⟨vs, v, l', hv⟩, fun y H2 ⟨e, hy⟩ => ?_⟩
  subst e
  have := hy vs l'
  rw [hv] at this; cases this
  exact ⟨Ext.refl, R', rv⟩
theorem di_lst (h : DE X B e ma) : DI X B tg e (dwLst ma) := PI_imp (pi_list h) fun σ H R ⟨env, S, Qd, s, q, f⟩ => by
  refine ⟨env, S, _, s, q, fun d S1 v H1 x1 R1 r1 q1 => ?_⟩
  cases d with
  | lst ds =>
    cases r1 with
    | lst l z r => exact ⟨_, rfl, ⟨_, l.sq⟩, f _ _ S1 _ H1 x1 R1 (walks_lst' R1 l r) (by rw [r.length]; exact z) q1⟩
  | ref a =>
    cases r1
    cases h : S1 a with
    | none => simp only [h] at q1
    | some o =>
      cases o with
      | lst ds =>
        simp only [h] at q1
        obtain ⟨vs, q, z, r⟩ := R1.get a _ h
        exact ⟨a, rfl, ⟨vs, .inl (.inl q)⟩, f _ _ S1 _ H1 x1 R1 walks_own (by rw [r.length]; exact z) q1⟩
      | _ => simp only [h] at q1
  | _ => exact q1.elim
theorem di_tup (h : DE X B e ma) : DI X B tg e (dwTup ma) := PI_imp (pi_tup h) fun σ H R ⟨env, S, Qd, s, q, f⟩ => by
  refine ⟨env, S, _, s, q, fun d S1 v H1 x1 R1 r1 q1 => ?_⟩
  cases d with
  | tup ds =>
    cases r1 with
    | tup l z r => exact ⟨_, rfl, ⟨_, l.sq⟩, f _ _ S1 _ H1 x1 R1 (walks_tup R1 l.sq r) (by rw [r.length]; exact z) q1⟩
  | _ => exact q1.elim
/-- over a list or a tuple -/
def dwSeq (m : ME) : MI := fun env S Q => m env S fun d S1 => match d with
  | .tup ds => Q ds okT S1
  | .lst ds => Q ds okT S1
  | .ref a => match S1 a with
    | some (.lst ds) => Q ds (fun S => S a = some (.lst ds)) S1
    | _ => False
  | _ => False
theorem di_seq (h : DE X B e ma) : DI X B tg e (dwSeq ma) := by
  refine ⟨fun pins s σ H R I ⟨env, S, Qd, st, q, f⟩ => ?_⟩
  have ev : cE (kz X B) B ma σ H fun v H1 => ∃ d S1, Ext S H S1 H1 ∧ Rel (kz X B) S1 H1 ∧ Rep (kz X B) S1 H1 d v ∧ (match d with
    | .tup ds => Qd ds okT S1
    | .lst ds => Qd ds okT S1
    | .ref a => match S1 a with
      | some (.lst ds) => Qd ds (fun S => S a = some (.lst ds)) S1
      | _ => False
    | _ => False) := ⟨env, S, _, st, q, fun d S1 v H1 x1 R1 r1 q1 => ⟨d, S1, x1, R1, r1, q1⟩⟩
  refine thn (h.run pins s σ H _ I ev) fun u s1 ⟨v, H1, I1, rv, d, S1, x1, R1, r1, q1⟩ => ?_
  have lst : ∀ {a : Addr} {vs : List V}, SqL X.K H1 a vs → R (Itl X.K a) H1 → wpAny (model X.prog X.w) X.A (pyIter (.ref a)) (PIE X pins σ tg R) X.xe s1 := fun {a vs} l q => by
    obtain ⟨its, rr, p, hz⟩ := I1.list l
    refine wpAny_pyIter_list p.isList ⟨s1.heap.objs.size, [s1.heap.objs.size], _, _, H1, rfl, I1.kept (t' := s1.toks) fun b o e => Heap.get?_push_of_some _ e, turn_list a _, ⟨_, Heap.get?_push_size _ rfl, rfl, rfl⟩, fun b hb => ?_, q⟩
    obtain rfl : b = s1.heap.objs.size := by simpa using hb
    exact I1.fpOk (Nat.le_refl _) (I1.hok.fresh (Nat.le_refl _))
  cases d with
  | tup ds =>
    cases r1 with
    | tup l z r =>
      cases rv
      obtain ⟨its, rr, p, hz⟩ := I1.tuple l.sq
      refine wpAny_pyIter_tuple p ⟨s1.heap.objs.size, [s1.heap.objs.size], _, _, H1, rfl, I1.kept (t' := s1.toks) fun b o e => Heap.get?_push_of_some _ e, turn_tuple _ _, ⟨_, Heap.get?_push_size _ rfl, rfl, rfl⟩, fun b hb => ?_, f _ _ S1 _ H1 x1 R1 (walks_tup R1 l.sq r) (by rw [r.length]; exact z) q1⟩
      obtain rfl : b = s1.heap.objs.size := by simpa using hb
      exact I1.fpOk (Nat.le_refl _) (I1.hok.fresh (Nat.le_refl _))
  | lst ds =>
    cases r1 with
    | lst l z r =>
      cases rv
      exact lst l.sq (f _ _ S1 _ H1 x1 R1 (walks_lst' R1 l r) (by rw [r.length]; exact z) q1)
  | ref a =>
    cases r1
    cases rv
    cases h : S1 a with
    | none => simp only [h] at q1
    | some o =>
      cases o with
      | lst ds =>
        simp only [h] at q1
        obtain ⟨vs, q, z, r⟩ := R1.get a _ h
        exact lst (.inl (.inl q)) (f _ _ S1 _ H1 x1 R1 walks_own (by rw [r.length]; exact z) q1)
      | _ => simp only [h] at q1
  | _ => exact q1.elim
/-- lo, lo + 1, .. (n of them) -/
def upTo (lo : Int) (n : Nat) : List D := (List.range n).map fun k => .int (lo + (k : Nat))
theorem upTo_len {lo : Int} {n : Nat} : (upTo lo n).length = n := by unfold upTo; rw [List.length_map, List.length_range]
theorem walks_rng {K : Kz} {S : Sto} {H : Hp} {lo : Int} {n : Nat} : WalksD K (Itr lo n) (upTo lo n) okT S H := fun Z' hz S' H' x R' _ i => by
  have len : (upTo lo n).length = n := upTo_len
  refine ⟨fun d hd => ?_, fun h => by rw [len] at h; exact h⟩
  have hi : i < n := by
    have := (List.getElem?_eq_some_iff.mp hd).1
    rw [len] at this; exact this
  refine ⟨hi, fun y H2 ⟨e1, e2⟩ => ?_⟩
  subst e1 e2
  unfold upTo at hd
  rw [List.getElem?_map, List.getElem?_range hi] at hd
  cases hd
  exact ⟨Ext.refl, R', .int _⟩
def dwRng1 (t : MA) : MI := fun env S Q => t env S fun ds S1 => match ds with
  | [.int j] => -(2 ^ 62) ≤ j ∧ j ≤ 16777216 ∧ Q (upTo 0 j.toNat) okT S1
  | _ => False
def dwRng2 (t : MA) : MI := fun env S Q => t env S fun ds S1 => match ds with
  | [.int i, .int j] => (-(2 ^ 62) ≤ i ∧ i < 2 ^ 62 ∧ -(2 ^ 62) ≤ j ∧ j < 2 ^ 62 ∧ j - i ≤ 16777216) ∧ Q (upTo i (j - i).toNat) okT S1
  | _ => False
theorem RepL.two {K : Kz} {S : Sto} {H : Hp} {d d' : D} {vs : List V} (h : RepL K S H [d, d'] vs) : ∃ v v', vs = [v, v'] ∧ Rep K S H d v ∧ Rep K S H d' v' := by
  cases h with
  | cons a b =>
    cases b with
    | cons c d => cases d; exact ⟨_, _, rfl, a, c⟩
theorem RepL.single {K : Kz} {S : Sto} {H : Hp} {d : D} {vs : List V} (h : RepL K S H [d] vs) : ∃ v, vs = [v] ∧ Rep K S H d v := by
  cases h with
  | cons a b => cases b; exact ⟨_, rfl, a⟩
theorem di_rng1 (hg : Gl X "range") (hm : X.mg "range" = none) (ha : DA X B [a] mr) (hs : starEach [a] X.env = [(false, eval a X.env)] := by rfl) : DI X B tg (.Call (.Name "range" pc) [a] [] pos) (dwRng1 mr) := PI_imp (pi_range1 hg hm ha hs) fun σ H R ⟨env, S, Qd, s, q, f⟩ => by
  refine ⟨env, S, _, s, q, fun ds S1 vs H1 x1 R1 r1 q1 => ?_⟩
  match ds, q1 with
  | [.int j], q1 =>
    obtain ⟨v, rfl, rv⟩ := r1.single
    cases rv
    exact ⟨j, rfl, q1.1, by omega, f _ _ S1 _ H1 x1 R1 walks_rng (by rw [upTo_len, sizeLine_eq]; omega) q1.2.2⟩
theorem di_rng2 (hg : Gl X "range") (hm : X.mg "range" = none) (ha : DA X B [a, b] mr) (hs : starEach [a, b] X.env = [(false, eval a X.env), (false, eval b X.env)] := by rfl) (hs2 : starEach [b] X.env = [(false, eval b X.env)] := by rfl) :
    DI X B tg (.Call (.Name "range" pc) [a, b] [] pos) (dwRng2 mr) := PI_imp (pi_range2 hg hm ha hs hs2) fun σ H R ⟨env, S, Qd, s, q, f⟩ => by
  refine ⟨env, S, _, s, q, fun ds S1 vs H1 x1 R1 r1 q1 => ?_⟩
  match ds, q1 with
  | [.int i, .int j], q1 =>
    obtain ⟨v, w, rfl, rv, rw'⟩ := r1.two
    cases rv
    cases rw'
    exact ⟨i, j, rfl, ⟨q1.1.1, q1.1.2.1, q1.1.2.2.1, q1.1.2.2.2.1⟩, f _ _ S1 _ H1 x1 R1 walks_rng (by rw [upTo_len, sizeLine_eq]; omega) q1.2⟩
/-! ### for -/
def forR (g : MG) (tb : MS) (ok : Sto → Prop) (D : DEnds) : List DL.D → DEnv → Sto → Prop
  | [], env, S => ok S ∧ D.nx env S
  | d :: ds, env, S => ok S ∧ g d env S fun env' S' => tb { D with nx := forR g tb ok D ds, ct := forR g tb ok D ds, bk := D.nx } env' S'
def dFor (wi : MI) (g : MG) (tb : MS) : MS := fun D env S => wi env S fun ds ok S1 => forR g tb ok D ds env S1
theorem ds_for {iter : Expr} {body : List Stmt} {wi : MI} {g : MG} {tb : MS} (hp : PassesOwn (model X.prog X.w) X.A X.env X.xe) (hc : X.calm = true) (hi : DI X B tg iter wi) (hg : DG X B tg g) (hb : DSs X B body tb)
    (hs : ∀ x, foldedSetIterable iter X.env x = pure x := by intro _; rfl) : DS X B (.For tg iter body [] pos) (dFor wi g tb) := PS_imp (ps_for hp hc hi hg hb hs) fun D σ H ⟨env, S, Dd, s, q, f⟩ => by
  refine ⟨env, S, _, s, q, fun ds ok S1 J H1 x1 R1 w _ q1 => ?_⟩
  have w := w B.Z fun a z => .inl z
  refine ⟨fun i m σ' H' => m = ds.length - i ∧ i ≤ ds.length ∧ ∃ env' S', StOk (kz X B) B S' H' env' σ' ∧ Ext S1 H1 S' H' ∧ forR g tb ok Dd (ds.drop i) env' S', ⟨ds.length, rfl, Nat.zero_le _, env, S1, s.mono x1 R1, Ext.refl, q1⟩, ?_⟩
  rintro i m σ2 H2 ⟨rfl, hi, env2, S2, s2, x2, q2⟩
  by_cases h : i < ds.length
  · have hd : ds[i]? = some ds[i] := List.getElem?_eq_getElem h
    rw [List.drop_eq_getElem_cons h] at q2
    obtain ⟨o2, q2⟩ := q2
    obtain ⟨go, y⟩ := (w S2 H2 x2.w s2.rel o2 i).1 _ hd
    refine .inr ⟨go, fun σ' H' => ∃ env' S', StOk (kz X B) B S' H' env' σ' ∧ Ext S1 H1 S' H' ∧ forR g tb ok Dd (ds.drop (i + 1)) env' S', fun σ' H' ⟨env', S', s', x', q'⟩ => ⟨ds.length - (i + 1), by omega, rfl, h, env', S', s', x', q'⟩, fun v H3 hy => ?_⟩
    obtain ⟨x3, R3, r3⟩ := y v H3 hy
    refine ⟨ds[i], env2, S2, _, s2.mono x3 R3, r3, q2, fun env4 S4 σ4 H4 x4 s4 q4 => ?_⟩
    have x5 : Ext S1 H1 S4 H4 := x2.trans (x3.trans x4)
    have x6 : Ext S H S4 H4 := x1.trans x5
    exact ⟨env4, S4, _, s4, q4, fun e' S' σ' H' x' s' q' => ⟨e', S', s', x5.trans x', q'⟩, fun d S' v H' x' => f.rt d S' v H' (x6.trans x'),
      fun e' S' σ' H' x' => f.nx e' S' σ' H' (x6.trans x'), fun e' S' σ' H' x' s' q' => ⟨e', S', s', x5.trans x', q'⟩⟩
  · obtain rfl : i = ds.length := by omega
    rw [List.drop_length] at q2
    exact .inl ⟨(w S2 H2 x2.w s2.rel q2.1 _).2 (Nat.le_refl _), f.nx env2 S2 σ2 H2 (x1.trans x2) s2 q2.2⟩
/-! ### while -/
def dWhile (c : MT) (tb : MS) : MS := fun D env S => ∃ (P : DEnv → Sto → Prop) (μ : DEnv → Sto → Nat), P env S ∧ ∀ env S, P env S → c env S fun b S1 => if b = true then
  tb { D with nx := fun e' S' => P e' S' ∧ μ e' S' < μ env S, ct := fun e' S' => P e' S' ∧ μ e' S' < μ env S, bk := D.nx } env S1 else D.nx env S1
theorem ds_while {body : List Stmt} {mc : MT} {tb : MS} (hp : PassesOwn (model X.prog X.w) X.A X.env X.xe) (hc : DT X B c mc) (hb : DSs X B body tb) : DS X B (.While c body [] pos) (dWhile mc tb) := PS_imp (ps_while hp hc hb) fun D σ H ⟨env, S, Dd, s, ⟨P, μ, p0, turn⟩, f⟩ => by
  refine ⟨fun m σ' H' => ∃ env' S', StOk (kz X B) B S' H' env' σ' ∧ Ext S H S' H' ∧ m = μ env' S' ∧ P env' S', ⟨_, env, S, s, Ext.refl, rfl, p0⟩, ?_⟩
  rintro m σ1 H1 ⟨env1, S1, s1, x1, rfl, p1⟩
  refine ⟨env1, S1, _, s1, turn env1 S1 p1, fun b S2 H2 x2 R2 q2 => ?_⟩
  cases b with
  | true =>
    rw [if_pos rfl] at q2 ⊢
    have x12 := x1.trans x2
    refine ⟨fun σ' H' => ∃ env' S', StOk (kz X B) B S' H' env' σ' ∧ Ext S H S' H' ∧ P env' S' ∧ μ env' S' < μ env1 S1, fun σ' H' ⟨e', S', s', x', p', l'⟩ => ⟨_, l', e', S', s', x', rfl, p'⟩, env1, S2, _, s1.mono x2 R2, q2, ?_⟩
    exact ⟨fun e' S' σ' H' x' s' q' => ⟨e', S', s', x12.trans x', q'⟩, fun d S' v H' x' => f.rt d S' v H' (x12.trans x'), fun e' S' σ' H' x' => f.nx e' S' σ' H' (x12.trans x'), fun e' S' σ' H' x' s' q' => ⟨e', S', s', x12.trans x', q'⟩⟩
  | false =>
    rw [if_neg Bool.false_ne_true] at q2 ⊢
    exact f.nx env1 S2 σ1 H2 (x1.trans x2) (s1.mono x2 R2) q2
end
end DL
namespace DL
open PySem PySem.Spec PyProof.Rows L2
/-! ### list comprehensions -/
def dwipe (env : DEnv) : List Nat → DEnv
  | [] => env
  | v :: vs => (dwipe env vs).set v none
theorem dwipe_length (env : DEnv) : ∀ vs : List Nat, (dwipe env vs).length = env.length
  | [] => rfl
  | v :: vs => by unfold dwipe; rw [List.length_set, dwipe_length env vs]
theorem set_none_get {α : Type} {l : List (Option α)} {i j : Nat} {d : α} (h : (l.set i none)[j]? = some (some d)) : l[j]? = some (some d) ∧ j ≠ i := by
  by_cases e : i = j
  · subst e
    by_cases hi : i < l.length
    · rw [List.getElem?_set_self hi] at h; cases h
    · rw [List.getElem?_eq_none (by rw [List.length_set]; omega)] at h; cases h
  · rw [List.getElem?_set_ne e] at h
    exact ⟨h, fun q => e q.symm⟩
theorem EnvOk.wipe {K : Kz} {S : Sto} {H : Hp} {env : DEnv} {σ : L2.St} (e : EnvOk K S H env σ) : ∀ vs : List Nat, EnvOk K S H (dwipe env vs) (L2.wipe σ vs)
  | [] => e
  | v :: vs => by
    have ih := e.wipe vs
    refine ⟨by rw [dwipe_length, wipe_length]; exact e.len, fun i d h => ?_⟩
    unfold dwipe at h
    obtain ⟨h1, h2⟩ := set_none_get h
    obtain ⟨x, hx, r⟩ := ih.get i d h1
    refine ⟨x, ?_, r⟩
    unfold L2.wipe
    rw [List.getElem?_set_ne h2.symm]; exact hx
theorem wipe_comm (σ : L2.St) (v : Nat) (x : Option V) : ∀ vs : List Nat, v ∉ vs → L2.wipe (σ.set v x) vs = (L2.wipe σ vs).set v x
  | [], _ => rfl
  | u :: us, h => by
    unfold L2.wipe
    rw [wipe_comm σ v x us fun q => h (List.mem_cons_of_mem _ q)]
    exact List.set_comm _ _ fun q => h (by rw [q]; exact List.mem_cons_self)
theorem wipe_set (σ : L2.St) (v : Nat) (x : Option V) : ∀ vs : List Nat, v ∈ vs → L2.wipe (σ.set v x) vs = L2.wipe σ vs
  | u :: us, h => by
    unfold L2.wipe
    by_cases q : v ∈ us
    · rw [wipe_set σ v x us q]
    · have e : v = u := by
        rcases List.mem_cons.mp h with e | e
        · exact e
        · exact (q e).elim
      subst e
      rw [wipe_comm σ v x us q, List.set_set]
/-- targets within a comprehension: they store its own names alone -/
def cGv (K : Kz) (B : Bs) (vs : List Nat) (m : MG) : TG := fun v σ H Q => ∃ d env S Qd, StOk K B S H env σ ∧ Rep K S H d v ∧ m d env S Qd ∧ ∀ env' S' σ' H', Ext S H S' H' → StOk K B S' H' env' σ' → L2.wipe σ' vs = L2.wipe σ vs → Qd env' S' → Q σ' H'
def cGsv (K : Kz) (B : Bs) (vs : List Nat) (m : MGs) : TGs := fun v σ H Q => ∃ ds env S Qd, StOk K B S H env σ ∧ RepL K S H ds v ∧ m ds env S Qd ∧ ∀ env' S' σ' H', Ext S H S' H' → StOk K B S' H' env' σ' → L2.wipe σ' vs = L2.wipe σ vs → Qd env' S' → Q σ' H'
abbrev DGv (X : Cx) (B : Bs) (vs : List Nat) (tg : Expr) (m : MG) : Prop := PG X tg (cGv (kz X B) B vs m)
abbrev DGsv (X : Cx) (B : Bs) (vs : List Nat) (tgs : List Expr) (m : MGs) : Prop := PGs X tgs (cGsv (kz X B) B vs m)
section
variable {X : Cx} {B : Bs} {vs : List Nat} {e : Expr} {es : List Expr} {pos : Pos}
theorem dgv_name (i : Nat) {x : Str} (hN : X.N.Nodup) (hi : X.N[i]? = some x := by rfl) (hv : i ∈ vs := by decide) (hx : Loc X.env.scope x := by first | exact Or.inl rfl | exact Or.inr rfl) (hf : X.fn x = true ∨ X.env.scope.names.lookup x = some .local := by first | exact .inl rfl | exact .inr rfl) : DGv X B vs (.Name x pos) (dgName i) :=
  PG_imp (pg_name hN hi hx hf) fun v σ H Q ⟨d, env, S, Qd, s, r, q, f⟩ => f _ S _ H Ext.refl (s.set r i) (wipe_set σ i _ vs hv) q
theorem dgsv_nil : DGsv X B vs [] dgNil := PGs_imp pgs_nil fun v σ H Q ⟨ds, env, S, Qd, s, r, ⟨e, q⟩, f⟩ => by
  subst e
  cases r
  exact ⟨rfl, f _ _ _ _ Ext.refl s rfl q⟩
theorem dgsv_cons {t : MG} {u : MGs} (h1 : DGv X B vs e t) (h2 : DGsv X B vs es u) (hs : (assignEach (e :: es) X.env).map (·.2) = assign e X.env :: (assignEach es X.env).map (·.2) := by rfl) : DGsv X B vs (e :: es) (dgCons t u) :=
  PGs_imp (pgs_cons h1 h2 hs) fun v σ H Q ⟨ds, env, S, Qd, s, r, q, f⟩ => by
  cases r with
  | nil => exact q.elim
  | cons r rr =>
    refine ⟨_, _, rfl, _, env, S, _, s, r, q, fun env1 S1 σ1 H1 x1 s1 w1 q1 => ?_⟩
    exact ⟨_, env1, S1, _, s1, RepL.mono s.rel x1 _ _ rr, q1, fun env2 S2 σ2 H2 x2 s2 w2 q2 => f env2 S2 σ2 H2 (x1.trans x2) s2 (w2.trans w1) q2⟩
theorem dgv_tup {k : Nat} {t : MGs} {n : Nat} (hc : X.calm = true) (h : DGsv X B vs es t) (hn : (assignEach es X.env).length = n := by rfl) (hst : (assignEach es X.env).findIdx? (·.1) = none := by rfl) : DGv X B vs (.Tuple es k pos) (dgTup n t) :=
  PG_imp (pg_tup hc h hn hst) fun v σ H Q ⟨d, env, S, Qd, s, r, q, f⟩ => by
  cases d with
  | tup ds =>
    cases r with
    | tup sq z rr => exact ⟨_, _, rfl, sq.sq, by rw [← rr.length]; exact q.1, ds, env, S, Qd, s, rr, q.2, f⟩
  | _ => exact q.elim
/-- a clause's tests -/
abbrev DTs (X : Cx) (B : Bs) (ifs : List Expr) (m : MT) : Prop := PTs X ifs (cT (kz X B) B m)
def dYes : MT := fun _ S Q => Q true S
theorem PTs_imp {X : Cx} {e : List Expr} {t t' : TT} (h : PTs X e t) (i : ∀ σ H Q, t' σ H Q → t σ H Q) : PTs X e t' := ⟨fun pins s σ H Q I q => h.run pins s σ H Q I (i σ H Q q)⟩
theorem dts_nil : DTs X B [] dYes := PTs_imp pts_nil fun σ H Q ⟨env, S, Qd, s, q, f⟩ => f true S H Ext.refl s.rel q
theorem dts_one {c : Expr} {t : MT} (h : DT X B c t) : DTs X B [c] t := pts_one h
theorem PE_ex {ι : Type} {t : ι → TE} (h : ∀ i, PE X e (t i)) : PE X e (fun σ H Q => ∃ i, t i σ H Q) := ⟨fun pins s σ H Q I ⟨i, q⟩ => (h i).run pins s σ H Q I q⟩
theorem PTs_ex {ι : Type} {t : ι → TT} (h : ∀ i, PTs X es (t i)) : PTs X es (fun σ H Q => ∃ i, t i σ H Q) := ⟨fun pins s σ H Q I ⟨i, q⟩ => (h i).run pins s σ H Q I q⟩
theorem PG_ex {ι : Type} {t : ι → TG} (h : ∀ i, PG X e (t i)) : PG X e (fun v σ H Q => ∃ i, t i v σ H Q) := ⟨fun pins s σ H v u Q I r ⟨i, q⟩ => (h i).run pins s σ H v u Q I r q⟩
end
/-- a comprehension's turns: env0 is the environment without its own names -/
def lcR (g : MG) (tt : MT) (te : ME) (ok : Sto → Prop) (env0 : DEnv) (Q : List D → Sto → Prop) : List D → List D → Sto → Prop
  | [], acc, S => ok S ∧ Q acc S
  | d :: ds, acc, S => ok S ∧ g d env0 S fun env' S' => tt env' S' fun b S2 => if b = true then te env' S2 fun y S3 => lcR g tt te ok env0 Q ds (acc ++ [y]) S3 else lcR g tt te ok env0 Q ds acc S2
/-- .. the list settled -/
def dLc (wi : MI) (g : MG) (tt : MT) (te : ME) (vs : List Nat) : ME := fun env S Q => wi env S fun ds ok S1 => lcR g tt te ok (dwipe env vs) (fun acc S2 => Q (.lst acc) S2) ds [] S1
/-- .. the list to be changed -/
def dLcO (wi : MI) (g : MG) (tt : MT) (te : ME) (vs : List Nat) : ME := fun env S Q => wi env S fun ds ok S1 => lcR g tt te ok (dwipe env vs) (fun acc S2 => ∀ p, S2 p = none → Q (.ref p) (put S2 p (.lst acc))) ds [] S1
def bz (B : Bs) (Z : Addr → Prop) : Bs := ⟨B.S, B.H, Z⟩
section
variable {X : Cx} {B : Bs} {vs : List Nat} {wi : MI} {g : MG} {tt : MT} {te : ME}
theorem wipe_idem (σ : L2.St) : ∀ vs ws : List Nat, (∀ v ∈ vs, v ∈ ws) → L2.wipe (L2.wipe σ vs) ws = L2.wipe σ ws
  | [], _, _ => rfl
  | v :: us, ws, h => by
    show L2.wipe ((L2.wipe σ us).set v none) ws = _
    rw [wipe_set _ _ _ ws (h v List.mem_cons_self)]
    exact wipe_idem σ us ws fun u hu => h u (List.mem_cons_of_mem _ hu)
theorem EnvOk.hide {K : Kz} {S : Sto} {H : Hp} {env : DEnv} {σ : L2.St} {Z' : Addr → Prop} (e : EnvOk K S H env σ) (z : ∀ a, Z' a → K.Z a ∨ H a = none) : EnvOk ⟨K.K, Z'⟩ S H env σ := ⟨e.len, fun i d h => let ⟨v, h1, r⟩ := e.get i d h; ⟨v, h1, Rep.hide z _ _ r⟩⟩
theorem EnvOk.monoF {K : Kz} {S S' : Sto} {H H' : Hp} {env : DEnv} {σ : L2.St} (e : EnvOk K S H env σ) (R : Free S H) (x : Ext S H S' H') : EnvOk K S' H' env σ := ⟨e.len, fun i d h => let ⟨v, h1, h2⟩ := e.get i d h; ⟨v, h1, Rep.monoF R x _ _ h2⟩⟩
/-- what a comprehension's end knows: the list at D is the hidden one -/
structure LcEnd (X : Cx) (B : Bs) (S : Sto) (H : Hp) (D : Addr) (acc : List DL.D) (S2 : Sto) (H2 : Hp) (ws : List V) : Prop where
  ext : Ext S H S2 H2
  apart : ∀ a u, H a = some u → S a = none → a ≠ D
  rel : Rel ⟨X.K, fun a => B.Z a ∨ a = D⟩ S2 H2
  nz : ¬ B.Z D
  at_ : H2 D = some (.lst ws)
  len : ws.length ≤ sizeLine
  rep : RepL ⟨X.K, fun a => B.Z a ∨ a = D⟩ S2 H2 acc ws
/-- the layer's reading of a comprehension, from the one over trees -/
theorem tLc_of {σ : L2.St} {H : Hp} {Q : VK} {env : DEnv} {S : Sto} {F : List D → Sto → Prop} (s : StOk (kz X B) B S H env σ) (q : wi env S fun ds ok S1 => lcR g tt te ok (dwipe env vs) F ds [] S1)
    (fin : ∀ D acc S2 H2 ws, LcEnd X B S H D acc S2 H2 ws → F acc S2 → Q (.ref D) H2) :
    tLc (cI (kz X B) B wi) (fun v σ H Q => ∃ Z, cGv ⟨X.K, Z⟩ (bz B Z) vs g v σ H Q) (fun σ H Q => ∃ Z, cT ⟨X.K, Z⟩ (bz B Z) tt σ H Q) (fun σ H Q => ∃ Z, cE ⟨X.K, Z⟩ (bz B Z) te σ H Q) vs σ H Q := by
  refine ⟨env, S, _, s, q, fun ds ok S1 J H1 x1 R1 w hz q1 => fun D nD => ?_⟩
  have zz : ∀ a, (B.Z a ∨ a = D) → B.Z a ∨ H1 a = none := fun a h => h.imp_right fun e => by rw [e]; exact nD
  have w := w (fun a => B.Z a ∨ a = D) zz
  have e1 : EnvOk ⟨X.K, fun a => B.Z a ∨ a = D⟩ S1 H1 (dwipe env vs) (L2.wipe σ vs) := ((s.mono x1 R1).env.hide (K := kz X B) zz).wipe vs
  have ap : ∀ a u, H a = some u → S a = none → a ≠ D := fun a u h n e => by
    have := (x1 a u h n).1
    rw [e, nD] at this; cases this
  refine ⟨fun i m H2 => m = ds.length - i ∧ i ≤ ds.length ∧ ∃ S2 acc ws, Ext S1 H1 S2 H2 ∧ Rel ⟨X.K, fun a => B.Z a ∨ a = D⟩ S2 H2 ∧ H2 D = some (.lst ws) ∧ RepL ⟨X.K, fun a => B.Z a ∨ a = D⟩ S2 H2 acc ws ∧ ws.length ≤ i ∧
    lcR g tt te ok (dwipe env vs) F (ds.drop i) acc S2, ⟨ds.length, rfl, Nat.zero_le _, S1, [], [], Ext.new nD, Rel.hideNew (K := kz X B) R1 nD, upd_same, .nil, Nat.le_refl _, q1⟩, ?_⟩
  rintro i m H2 ⟨rfl, hi, S2, acc, ws, x2, R2, a2, r2, l2, q2⟩
  by_cases h : i < ds.length
  · have hd : ds[i]? = some ds[i] := List.getElem?_eq_getElem h
    rw [List.drop_eq_getElem_cons h] at q2
    obtain ⟨o2, q2⟩ := q2
    obtain ⟨go, y⟩ := (w S2 H2 x2.w R2 o2 i).1 _ hd
    refine .inr ⟨go, fun H' => ∃ S' acc' ws', Ext S1 H1 S' H' ∧ Rel ⟨X.K, fun a => B.Z a ∨ a = D⟩ S' H' ∧ H' D = some (.lst ws') ∧ RepL ⟨X.K, fun a => B.Z a ∨ a = D⟩ S' H' acc' ws' ∧ ws'.length ≤ i + 1 ∧
      lcR g tt te ok (dwipe env vs) F (ds.drop (i + 1)) acc' S', fun H' hn => ⟨ds.length - (i + 1), by omega, rfl, h, hn⟩, fun v H3 hy => ?_⟩
    obtain ⟨x3, R3, r3⟩ := y v H3 hy
    have x13 := x2.trans x3
    refine ⟨fun a => B.Z a ∨ a = D, ds[i], dwipe env vs, S2, _, ⟨e1.monoF R1.fr x13, R3, (s.base.trans x1).trans x13⟩, r3, q2, fun env4 S4 σ4 H4 x4 s4 w4 q4 => ?_⟩
    have x14 := x13.trans x4
    refine ⟨w4.trans (wipe_idem σ vs vs fun _ z => z), fun a => B.Z a ∨ a = D, env4, S4, _, s4, q4, fun b S5 H5 x5 R5 q5 => ?_⟩
    have x15 := x14.trans x5
    have a5 : H5 D = some (.lst ws) := (((x3.trans x4).trans x5) D _ a2 (R2.hid D (.inr rfl)).2).1
    cases b with
    | false =>
      rw [if_neg Bool.false_ne_true] at q5
      refine iteF ?_
      exact ⟨S5, acc, ws, x15, R5, a5, RepL.mono R2 ((x3.trans x4).trans x5) _ _ r2, Nat.le_succ_of_le l2, q5⟩
    | true =>
      rw [if_pos rfl] at q5
      refine iteT ?_
      refine ⟨fun a => B.Z a ∨ a = D, env4, S5, _, s4.mono x5 R5, q5, fun yd S6 yv H6 x6 R6 r6 q6 => ?_⟩
      have a6 : H6 D = some (.lst ws) := (x6 D _ a5 (R5.hid D (.inr rfl)).2).1
      have t6 : Turn1 H6 (upd H6 D (.lst (ws ++ [yv]))) D := ⟨⟨ws, a6⟩, fun a ne => upd_ne ne⟩
      refine ⟨ws, a6, Nat.lt_of_le_of_lt l2 (Nat.lt_of_lt_of_le h hz), S6, acc ++ [yd], ws ++ [yv], fun a u ha na => ?_, R6.turn t6 (.inr rfl) (by rw [upd_same]; exact fun z => nomatch z), upd_same, ?_, ?_, q6⟩
      · have ne : a ≠ D := fun e => by rw [e, nD] at ha; cases ha
        rw [upd_ne ne]
        exact (x15.trans x6) a u ha na
      · exact RepL.turn (K := ⟨X.K, fun a => B.Z a ∨ a = D⟩) t6 (.inr rfl) _ _ ((RepL.mono R2 (((x3.trans x4).trans x5).trans x6) _ _ r2).append (.cons r6 .nil))
      · rw [List.length_append, List.length_singleton]; omega
  · obtain rfl : i = ds.length := by omega
    rw [List.drop_length] at q2
    refine .inl ⟨(w S2 H2 x2.w R2 q2.1 _).2 (Nat.le_refl _), fin D acc S2 H2 ws ⟨x1.trans x2, ap, R2, fun z => (R1.hid D z).1 nD, a2, Nat.le_trans l2 hz, r2⟩ q2.2⟩
/-- .. told of a new owner -/
theorem LsT.claim {K : Kz} {S : Sto} {H : Hp} {D a : Addr} {o : O} {xs : List V} (h : LsT ⟨K.K, fun a => K.Z a ∨ a = D⟩ S H a xs) : LsT K (put S D o) H a xs := by
  rcases h with ⟨n, z, h⟩ | h
  · have ne : a ≠ D := fun e => z (.inr e)
    exact .inl ⟨by rw [put_ne ne]; exact n, fun q => z (.inl q), h⟩
  · exact .inr h
mutual
theorem Rep.claim {K : Kz} {S : Sto} {H : Hp} {D : Addr} {o : O} {w : List V} (hD : H D = some (.lst w)) : ∀ (d : DL.D) (v : V), Rep ⟨K.K, fun a => K.Z a ∨ a = D⟩ S H d v → Rep K (put S D o) H d v
  | .non, _, h => by cases h; exact .non
  | .bl b, _, h => by cases h; exact .bl b
  | .int i, _, h => by cases h; exact .int i
  | .str z, _, h => by cases h; exact .str z
  | .ref a, _, h => by cases h; exact .ref a
  | .ty n, _, h => by cases h; exact .ty n
  | .tup ds, _, h => by
    cases h with
    | tup q y r => exact .tup q y (RepL.claim hD _ _ r)
  | .lst ds, _, h => by
    cases h with
    | lst q y r => exact .lst q.claim y (RepL.claim hD _ _ r)
  | .obj C ns ds, _, h => by
    cases h with
    | obj n q y r => exact .obj (by rw [put_ne fun e => by rw [e, hD] at q; cases q]; exact n) q y (RepL.claim hD _ _ r)
  | .dK ks ds, _, h => by
    cases h with
    | dK n q y r => exact .dK (by rw [put_ne fun e => by rw [e, hD] at q; cases q]; exact n) q y (RepL.claim hD _ _ r)
  | .dT ks ds, _, h => by
    cases h with
    | dT n q y r => exact .dT (by rw [put_ne fun e => by rw [e, hD] at q; cases q]; exact n) q y (RepL.claim hD _ _ r)
theorem RepL.claim {K : Kz} {S : Sto} {H : Hp} {D : Addr} {o : O} {w : List V} (hD : H D = some (.lst w)) : ∀ (ds : List DL.D) (vs : List V), RepL ⟨K.K, fun a => K.Z a ∨ a = D⟩ S H ds vs → RepL K (put S D o) H ds vs
  | [], _, h => by cases h; exact .nil
  | d :: ds, _, h => by
    cases h with
    | cons a b => exact .cons (Rep.claim hD _ _ a) (RepL.claim hD _ _ b)
end
theorem Rel.claim {K : Kz} {S : Sto} {H : Hp} {D : Addr} {ds : List DL.D} {w : List V} (R : Rel ⟨K.K, fun a => K.Z a ∨ a = D⟩ S H) (nz : ¬ K.Z D) (hD : H D = Option.some (.lst w)) (z : w.length ≤ sizeLine) (r : RepL ⟨K.K, fun a => K.Z a ∨ a = D⟩ S H ds w) : Rel K (DL.put S D (O.lst ds)) H := by
  refine ⟨fun a o e => ?_, fun a h => ?_⟩
  · by_cases q : a = D
    · subst q
      rw [put_same] at e; cases e
      exact ⟨w, hD, z, RepL.claim hD _ _ r⟩
    · rw [put_ne q] at e
      have p := R.get a o e
      cases o with
      | lst ds => obtain ⟨vs, q, y, r⟩ := p; exact ⟨vs, q, y, RepL.claim hD _ _ r⟩
      | obj C ns ds => obtain ⟨dx, vs, q, y, r⟩ := p; exact ⟨dx, vs, q, y, RepL.claim hD _ _ r⟩
      | dK ks ds => obtain ⟨vs, q, y, r⟩ := p; exact ⟨vs, q, y, RepL.claim hD _ _ r⟩
      | dT ks ds => obtain ⟨vs, q, y, r⟩ := p; exact ⟨vs, q, y, RepL.claim hD _ _ r⟩
      | ts Φ cs => exact p
  · have ne : a ≠ D := fun e => nz (e ▸ h)
    rw [put_ne ne]
    exact R.hid a (.inl h)
theorem LcEnd.settled {S : Sto} {H : Hp} {D : Addr} {acc : List DL.D} {S2 : Sto} {H2 : Hp} {ws : List V} {Qd : DQ} {Q : VK} (l : LcEnd X B S H D acc S2 H2 ws) (f : Fin (kz X B) S H Qd Q) (q : Qd (.lst acc) S2) : Q (.ref D) H2 :=
  f _ S2 _ H2 l.ext (Rel.show (K := kz X B) l.rel fun _ => .inl) (.lst (.inl ⟨(l.rel.hid D (.inr rfl)).2, l.nz, .inl l.at_⟩) l.len (RepL.hide (K := ⟨X.K, fun a => B.Z a ∨ a = D⟩) (Z' := B.Z) (fun _ h => .inl (.inl h)) _ _ l.rep)) q
theorem LcEnd.owned {S : Sto} {H : Hp} {D : Addr} {acc : List DL.D} {S2 : Sto} {H2 : Hp} {ws : List V} {Qd : DQ} {Q : VK} (l : LcEnd X B S H D acc S2 H2 ws) (f : Fin (kz X B) S H Qd Q) (q : ∀ p, S2 p = none → Qd (.ref p) (put S2 p (.lst acc))) : Q (.ref D) H2 :=
  f _ _ _ H2 (fun a u h n => ⟨(l.ext a u h n).1, by rw [put_ne (l.apart a u h n)]; exact (l.ext a u h n).2⟩) (Rel.claim (K := kz X B) l.rel l.nz l.at_ l.len l.rep) (.ref D) (q D (l.rel.hid D (.inr rfl)).2)
variable {elt tg iter : Expr} {ifs : List Expr} {scope : Scope} {own : List (Str × Nat)} {pos spos : Pos}
/-- [elt for tg in iter if ..] -/
theorem de_lc (hc : X.calm = true) (hN : X.N.Nodup) (hi : DI X B tg iter wi) (ok : BlkOk X.N X.env.scope scope own)
    (hg : ∀ (Z : Addr → Prop) (s : Shared) (H : Hp) (C : Addr) (cl : List (Str × Addr)) (fp : List Addr), DGv (X.blk s H scope (compEnvC scope cl C X.env) fp) (bz B Z) (own.map (·.2)) tg g)
    (ht : ∀ (Z : Addr → Prop) (s : Shared) (H : Hp) (C : Addr) (cl : List (Str × Addr)) (fp : List Addr), DTs (X.blk s H scope (compEnvC scope cl C X.env) fp) (bz B Z) ifs tt)
    (he : ∀ (Z : Addr → Prop) (s : Shared) (H : Hp) (C : Addr) (cl : List (Str × Addr)) (fp : List Addr), DE (X.blk s H scope (compEnvC scope cl C X.env) fp) (bz B Z) elt te) (hs : ∀ x, foldedSetIterable iter X.env x = pure x := by intro _; rfl) :
    DE X B (.ListComp elt [⟨tg, iter, ifs, 0⟩] scope pos) (dLc wi g tt te (own.map (·.2))) :=
  PE_imp (pe_lc hc hN hi ok (fun s H C cl fp => PG_ex fun Z => hg Z s H C cl fp) (fun s H C cl fp => PTs_ex fun Z => ht Z s H C cl fp) (fun s H C cl fp => PE_ex fun Z => he Z s H C cl fp) hs) fun σ H Q ⟨env, S, Qd, s, q, f⟩ =>
    tLc_of s q fun D acc S2 H2 ws l q2 => l.settled f q2
theorem de_lcO (hc : X.calm = true) (hN : X.N.Nodup) (hi : DI X B tg iter wi) (ok : BlkOk X.N X.env.scope scope own)
    (hg : ∀ (Z : Addr → Prop) (s : Shared) (H : Hp) (C : Addr) (cl : List (Str × Addr)) (fp : List Addr), DGv (X.blk s H scope (compEnvC scope cl C X.env) fp) (bz B Z) (own.map (·.2)) tg g)
    (ht : ∀ (Z : Addr → Prop) (s : Shared) (H : Hp) (C : Addr) (cl : List (Str × Addr)) (fp : List Addr), DTs (X.blk s H scope (compEnvC scope cl C X.env) fp) (bz B Z) ifs tt)
    (he : ∀ (Z : Addr → Prop) (s : Shared) (H : Hp) (C : Addr) (cl : List (Str × Addr)) (fp : List Addr), DE (X.blk s H scope (compEnvC scope cl C X.env) fp) (bz B Z) elt te) (hs : ∀ x, foldedSetIterable iter X.env x = pure x := by intro _; rfl) :
    DE X B (.ListComp elt [⟨tg, iter, ifs, 0⟩] scope pos) (dLcO wi g tt te (own.map (·.2))) :=
  PE_imp (pe_lc hc hN hi ok (fun s H C cl fp => PG_ex fun Z => hg Z s H C cl fp) (fun s H C cl fp => PTs_ex fun Z => ht Z s H C cl fp) (fun s H C cl fp => PE_ex fun Z => he Z s H C cl fp) hs) fun σ H Q ⟨env, S, Qd, s, q, f⟩ =>
    tLc_of s q fun D acc S2 H2 ws l q2 => l.owned f q2
/-- name = [..] -/
theorem tAsgLc_of {i : Nat} {σ : L2.St} {H : Hp} {D : Ends} {m : ME} (h : ∀ {env : DEnv} {S : Sto} {Qd : DQ} {Q : VK}, StOk (kz X B) B S H env σ → m env S Qd → Fin (kz X B) S H Qd Q →
      tLc (cI (kz X B) B wi) (fun v σ H Q => ∃ Z, cGv ⟨X.K, Z⟩ (bz B Z) vs g v σ H Q) (fun σ H Q => ∃ Z, cT ⟨X.K, Z⟩ (bz B Z) tt σ H Q) (fun σ H Q => ∃ Z, cE ⟨X.K, Z⟩ (bz B Z) te σ H Q) vs σ H Q) (q : cS (kz X B) B (dSet i m) D σ H) :
    tAsg (tLc (cI (kz X B) B wi) (fun v σ H Q => ∃ Z, cGv ⟨X.K, Z⟩ (bz B Z) vs g v σ H Q) (fun σ H Q => ∃ Z, cT ⟨X.K, Z⟩ (bz B Z) tt σ H Q) (fun σ H Q => ∃ Z, cE ⟨X.K, Z⟩ (bz B Z) te σ H Q) vs) (gName i) D σ H := by
  obtain ⟨env, S, Dd, s, q, f⟩ := q
  exact h s q fun d S' v H' x R r q' => f.nx _ S' _ H' x ((s.mono x R).set r i) q'
theorem ds_setLc (i : Nat) {y : Str} {py : Pos} (hc : X.calm = true) (hN : X.N.Nodup) (hsw : swapsWith (.ListComp elt [⟨tg, iter, ifs, 0⟩] scope pos) (some (.Name y py)) spos.line X.env = pure true) (hi : DI X B tg iter wi) (ok : BlkOk X.N X.env.scope scope own)
    (hg : ∀ (Z : Addr → Prop) (s : Shared) (H : Hp) (C : Addr) (cl : List (Str × Addr)) (fp : List Addr), DGv (X.blk s H scope (compEnvC scope cl C X.env) fp) (bz B Z) (own.map (·.2)) tg g)
    (ht : ∀ (Z : Addr → Prop) (s : Shared) (H : Hp) (C : Addr) (cl : List (Str × Addr)) (fp : List Addr), DTs (X.blk s H scope (compEnvC scope cl C X.env) fp) (bz B Z) ifs tt)
    (he : ∀ (Z : Addr → Prop) (s : Shared) (H : Hp) (C : Addr) (cl : List (Str × Addr)) (fp : List Addr), DE (X.blk s H scope (compEnvC scope cl C X.env) fp) (bz B Z) elt te)
    (hy : X.N[i]? = some y := by rfl) (hyl : X.env.scope.names.lookup y = some .local := by rfl) (hs : ∀ x, foldedSetIterable iter X.env x = pure x := by intro _; rfl) :
    DS X B (.Assign [.Name y py] (.ListComp elt [⟨tg, iter, ifs, 0⟩] scope pos) spos) (dSet i (dLc wi g tt te (own.map (·.2)))) :=
  PS_imp (ps_setLc hc hN hy hyl hsw hi ok (fun s H C cl fp => PG_ex fun Z => hg Z s H C cl fp) (fun s H C cl fp => PTs_ex fun Z => ht Z s H C cl fp) (fun s H C cl fp => PE_ex fun Z => he Z s H C cl fp) hs) fun D σ H q =>
    tAsgLc_of (fun s q f => tLc_of s q fun D acc S2 H2 ws l q2 => l.settled f q2) q
theorem ds_setLcO (i : Nat) {y : Str} {py : Pos} (hc : X.calm = true) (hN : X.N.Nodup) (hsw : swapsWith (.ListComp elt [⟨tg, iter, ifs, 0⟩] scope pos) (some (.Name y py)) spos.line X.env = pure true) (hi : DI X B tg iter wi) (ok : BlkOk X.N X.env.scope scope own)
    (hg : ∀ (Z : Addr → Prop) (s : Shared) (H : Hp) (C : Addr) (cl : List (Str × Addr)) (fp : List Addr), DGv (X.blk s H scope (compEnvC scope cl C X.env) fp) (bz B Z) (own.map (·.2)) tg g)
    (ht : ∀ (Z : Addr → Prop) (s : Shared) (H : Hp) (C : Addr) (cl : List (Str × Addr)) (fp : List Addr), DTs (X.blk s H scope (compEnvC scope cl C X.env) fp) (bz B Z) ifs tt)
    (he : ∀ (Z : Addr → Prop) (s : Shared) (H : Hp) (C : Addr) (cl : List (Str × Addr)) (fp : List Addr), DE (X.blk s H scope (compEnvC scope cl C X.env) fp) (bz B Z) elt te)
    (hy : X.N[i]? = some y := by rfl) (hyl : X.env.scope.names.lookup y = some .local := by rfl) (hs : ∀ x, foldedSetIterable iter X.env x = pure x := by intro _; rfl) :
    DS X B (.Assign [.Name y py] (.ListComp elt [⟨tg, iter, ifs, 0⟩] scope pos) spos) (dSet i (dLcO wi g tt te (own.map (·.2)))) :=
  PS_imp (ps_setLc hc hN hy hyl hsw hi ok (fun s H C cl fp => PG_ex fun Z => hg Z s H C cl fp) (fun s H C cl fp => PTs_ex fun Z => ht Z s H C cl fp) (fun s H C cl fp => PE_ex fun Z => he Z s H C cl fp) hs) fun D σ H q =>
    tAsgLc_of (fun s q f => tLc_of s q fun D acc S2 H2 ws l q2 => l.owned f q2) q
end
end DL
namespace DL
open PySem PySem.Spec PyProof.Rows L2
/-- the room a body runs in -/
structure Amb (A : Around) (k : Nat) : Prop where
  room : Room k A
  guards : A.guards = some []
/-- .. where an error may be in hand -/
structure AmbW (A : Around) (k : Nat) : Prop where
  dp : A.depth + 3 * k + 5 < recursionLimit
  un : A.units + 16 * k + 200 < cLine
  guards : A.guards = some []
theorem Amb.w {A : Around} {k : Nat} (m : Amb A k) : AmbW A k := ⟨m.room.dp, m.room.un, m.guards⟩
theorem Amb.mono {A : Around} {j k : Nat} (a : Amb A k) (h : j ≤ k) : Amb A j := ⟨a.room.mono h, a.guards⟩
/-! ### trees as the library's data -/
mutual
def py : D → PyData
  | .non => .none
  | .bl b => .bool b
  | .int i => .int i
  | .str x => .str x
  | .tup xs => .tuple (pyAll xs)
  | .lst xs => .list (pyAll xs)
  | _ => .none
def pyAll : List D → List PyData
  | [] => []
  | d :: ds => py d :: pyAll ds
end
mutual
def plain : D → Bool
  | .non => true
  | .bl _ => true
  | .int _ => true
  | .str _ => true
  | .tup xs => plainAll xs
  | .lst xs => plainAll xs
  | _ => false
def plainAll : List D → Bool
  | [] => true
  | d :: ds => plain d && plainAll ds
end
theorem pyAll_map : ∀ ds : List D, pyAll ds = ds.map py
  | [] => rfl
  | d :: ds => by rw [pyAll, pyAll_map ds]; rfl
theorem plainAll_iff : ∀ {ds : List D}, plainAll ds = true ↔ ∀ d ∈ ds, plain d = true
  | [] => by simp [plainAll]
  | d :: ds => by rw [plainAll, Bool.and_eq_true, plainAll_iff (ds := ds)]; simp
section
variable {K : Kz} {S : Sto} {H : Hp}
mutual
theorem Rep.dp : ∀ (d : D) (v : V), plain d = true → Rep K S H d v → Dp K.K H v (py d)
  | .non, _, _, h => by cases h; exact .non
  | .bl b, _, _, h => by cases h; exact .bl b
  | .int i, _, _, h => by cases h; exact .int i
  | .str x, _, _, h => by cases h; exact .str x
  | .tup xs, _, p, h => by
    cases h with
    | tup q _ r => exact .tup q.sq (RepL.dp _ _ p r)
  | .lst xs, _, p, h => by
    cases h with
    | lst q _ r => exact .lst q.sq (RepL.dp _ _ p r)
  | .ref _, _, p, _ => by cases p
  | .ty _, _, p, _ => by cases p
  | .obj _ _ _, _, p, _ => by cases p
  | .dK _ _, _, p, _ => by cases p
  | .dT _ _, _, p, _ => by cases p
theorem RepL.dp : ∀ (ds : List D) (vs : List V), plainAll ds = true → RepL K S H ds vs → DpAll K.K H vs (pyAll ds)
  | [], _, _, h => by cases h; exact .nil
  | d :: ds, _, p, h => by
    rw [plainAll, Bool.and_eq_true] at p
    cases h with
    | cons a b => exact .cons (Rep.dp _ _ p.1 a) (RepL.dp _ _ p.2 b)
end
end
/-- a tree that == may be asked of -/
def okE (d : D) : Bool := plain d && SeqAt.shaped (py d)
def eqD (x y : D) : Bool := PyData.eqv (py x) (py y)
/-! ### operators -/
def addP : D2 := fun x y S Q => match x, y with
  | .int i, .int j => Q (.int (i + j)) S
  | .str i, .str j => i.length + j.length ≤ sizeLine ∧ Q (.str (i ++ j)) S
  | .tup xs, .tup ys => xs.length + ys.length ≤ sizeLine ∧ Q (.tup (xs ++ ys)) S
  | x, y => match lstOf S x, lstOf S y with
    | some xs, some ys => xs.length + ys.length ≤ sizeLine ∧ Q (.lst (xs ++ ys)) S
    | _, _ => False
def subP : D2 := fun x y S Q => match x, y with
  | .int i, .int j => Q (.int (i - j)) S
  | _, _ => False
def mulP : D2 := fun x y S Q => match x, y with
  | .int i, .int j => ((-(2 ^ 64) < i ∧ i < 2 ^ 64) ∨ (-(2 ^ 64) < j ∧ j < 2 ^ 64)) ∧ Q (.int (i * j)) S
  | _, _ => False
def fdivP : D2 := fun x y S Q => match x, y with
  | .int i, .int j => (0 < j ∧ j < 2 ^ 64) ∧ Q (.int (i / j)) S
  | _, _ => False
def modP : D2 := fun x y S Q => match x, y with
  | .int i, .int j => 0 < j ∧ Q (.int (i % j)) S
  | _, _ => False
def powP : D2 := fun x y S Q => match x, y with
  | .int i, .int j => (0 ≤ j ∧ j ≤ 1000000 ∧ i.natAbs < 2 ^ 64) ∧ Q (.int (i ^ j.toNat)) S
  | _, _ => False
def negP : D1 := fun x S Q => match x with
  | .int i => Q (.int (-i)) S
  | _ => False
/-- xs + ys of lists that are read -/
def rCatL (K : PySem.W.Frag) : R2 := fun x y H Q => ∃ a b xs ys, x = .ref a ∧ y = .ref b ∧ SqL K H a xs ∧ SqL K H b ys ∧ xs.length + ys.length ≤ sizeLine ∧ ∀ p, H p = none → Q (.ref p) (upd H p (.lst (xs ++ ys)))
section
variable {X : Cx}
theorem op_catL : OpR X (binaryOp .Add) (rCatL X.K) := by
  intro pins s σ H x y v u Q I rx ry h
  obtain ⟨a, b, xs, ys, rfl, rfl, ha, hb, hz, q⟩ := h
  cases rx
  cases ry
  obtain ⟨us, r1, ⟨o1, n1, e1, c1, d1, t1⟩, _⟩ := I.list ha
  obtain ⟨ws, r2, ⟨o2, n2, e2, c2, d2, t2⟩, _⟩ := I.list hb
  obtain ⟨cl1, di1, da1, sl1⟩ := o1
  obtain ⟨cl2, di2, da2, sl2⟩ := o2
  simp only at c1 d1 t1 c2 d2 t2
  subst c1 d1 t1 c2 d2 t2
  have l1 := r1.length
  have l2 := r2.length
  have h1 : us.toArray.size + ws.toArray.size ≤ sizeLine := by rw [List.size_toArray, List.size_toArray]; omega
  refine concat_meets ⟨_, e1, rfl⟩ ⟨_, e2, rfl⟩ noFill_list_add seq_list_add PySem.F.slot_list_add PySem.F.entry_list_add (PySem.F.args_list_add_2 _ _)
    (list_addW a b us.toArray ws.toArray n1 n2 none none sl1 sl2 h1) ⟨e1, e2, ?_⟩
  rw [List.append_toArray]
  exact ⟨.ref _, _, I.lnew (t' := s.toks) (r1.append r2) (by rw [List.length_append]; omega), rfl, q _ I.fresh⟩
/-- + of whatever is served -/
def rAddA (K : PySem.W.Frag) : R2 := fun x y H Q => (rI0 fun i j => .int (i + j)) x y H Q ∨ (∃ i j, x = .str i ∧ y = .str j ∧ i.length + j.length ≤ sizeLine ∧ Q (.str (i ++ j)) H) ∨ rCatA K x y H Q ∨ rCatL K x y H Q
theorem op_addA : OpR X (binaryOp .Add) (rAddA X.K) := op_add.or (op_add_str.or (op_catA.or op_catL))
end
section
variable {K : Kz}
theorem opd_add : OpD K (rAddA K.K) addP := by
  intro S H x y v w Qd Q R rx ry q f
  have lists : (match lstOf S x, lstOf S y with
    | some xs, some ys => xs.length + ys.length ≤ sizeLine ∧ Qd (.lst (xs ++ ys)) S
    | _, _ => False) → rAddA K.K v w H Q := fun q => by
    cases hx : lstOf S x with
    | none => simp only [hx] at q
    | some xs =>
      cases hy : lstOf S y with
      | none => simp only [hx, hy] at q
      | some ys =>
        simp only [hx, hy] at q
        obtain ⟨a, us, rfl, sa, za, ra⟩ := lst_read R rx hx
        obtain ⟨b, ws, rfl, sb, zb, rb⟩ := lst_read R ry hy
        have z : us.length + ws.length ≤ sizeLine := by rw [← ra.length, ← rb.length]; exact q.1
        exact .inr (.inr (.inr ⟨a, b, us, ws, rfl, rfl, sa, sb, z, fun p n => f.lst R n (by rw [List.length_append]; exact z) (ra.append rb) q.2⟩))
  cases x with
  | int i =>
    cases y with
    | int j => cases rx; cases ry; exact .inl ⟨i, j, rfl, rfl, f.here R (.int _) q⟩
    | _ => exact lists q
  | str i =>
    cases y with
    | str j => cases rx; cases ry; exact .inr (.inl ⟨i, j, rfl, rfl, q.1, f.here R (.str _) q.2⟩)
    | _ => exact lists q
  | tup xs =>
    cases y with
    | tup ys =>
      cases rx with
      | tup sa za ra =>
        cases ry with
        | @tup b ws ys sb zb rb =>
          rename_i a us
          have z : us.length + ws.length ≤ sizeLine := by rw [← ra.length, ← rb.length]; exact q.1
          refine .inr (.inr (.inl ⟨a, b, us, ws, rfl, rfl, sa.sq, sb.sq, z, fun e => ?_, fun _ e => ?_, fun _ _ p n => f.tup R n (by rw [List.length_append]; exact z) (ra.append rb) q.2⟩))
          · subst e
            cases ra
            exact f.here R (.tup sb zb rb) q.2
          · subst e
            cases rb
            have q2 := q.2
            rw [List.append_nil] at q2
            exact f.here R (.tup sa za ra) q2
    | _ => exact lists q
  | _ => exact lists q
theorem opd_sub : OpD K (rI0 fun i j => .int (i - j)) subP := by
  intro S H x y v w Qd Q R rx ry q f
  unfold subP at q
  split at q
  · cases rx; cases ry; exact ⟨_, _, rfl, rfl, f.here R (.int _) q⟩
  · exact q.elim
theorem opd_mul : OpD K (rI CMul fun i j => .int (i * j)) mulP := by
  intro S H x y v w Qd Q R rx ry q f
  unfold mulP at q
  split at q
  · cases rx; cases ry; exact ⟨_, _, rfl, rfl, q.1, f.here R (.int _) q.2⟩
  · exact q.elim
theorem opd_fdiv : OpD K (rI CDivW fun i j => .int (i / j)) fdivP := by
  intro S H x y v w Qd Q R rx ry q f
  unfold fdivP at q
  split at q
  · cases rx; cases ry; exact ⟨_, _, rfl, rfl, wide_div (b := 64) q.1.1 (by omega) (by decide) (by decide), f.here R (.int _) q.2⟩
  · exact q.elim
theorem opd_mod : OpD K (rI (fun _ j => j ≠ 0) fun i j => .int (i.fmod j)) modP := by
  intro S H x y v w Qd Q R rx ry q f
  unfold modP at q
  split at q
  · rename_i i j
    cases rx; cases ry
    refine ⟨_, _, rfl, rfl, by omega, ?_⟩
    show Q (.int (i.fmod j)) H
    rw [Int.fmod_eq_emod_of_nonneg i (by omega)]
    exact f.here R (.int _) q.2
  · exact q.elim
theorem opd_pow : OpD K (rI CPow fun i j => .int (i ^ j.toNat)) powP := by
  intro S H x y v w Qd Q R rx ry q f
  unfold powP at q
  split at q
  · cases rx; cases ry; exact ⟨_, _, rfl, rfl, q.1, f.here R (.int _) q.2⟩
  · exact q.elim
theorem und_neg : UnD K (rU fun i => .int (-i)) negP := by
  intro S H x v Qd Q R rx q f
  unfold negP at q
  split at q
  · cases rx; exact ⟨_, rfl, f.here R (.int _) q⟩
  · exact q.elim
/-! ### comparisons -/
def cmpP (p : Int → Int → Bool) : D2 := fun x y S Q => match x, y with
  | .int i, .int j => Q (.bl (p i j)) S
  | _, _ => False
theorem opd_cmp {p : Int → Int → Bool} : OpD K (rI0 fun i j => .bl (p i j)) (cmpP p) := by
  intro S H x y v w Qd Q R rx ry q f
  unfold cmpP at q
  split at q
  · cases rx; cases ry; exact ⟨_, _, rfl, rfl, f.here R (.bl _) q⟩
  · exact q.elim
def eqP : D2 := fun x y S Q => match x, y with
  | .str a, .str b => Q (.bl (decide (a = b))) S
  | .int a, .int b => Q (.bl (decide (a = b))) S
  | .bl a, .bl b => Q (.bl (decide (a = b))) S
  | x, y => okE x = true ∧ okE y = true ∧ Q (.bl (eqD x y)) S
def neP : D2 := fun x y S Q => match x, y with
  | .str a, .str b => Q (.bl (!decide (a = b))) S
  | .int a, .int b => Q (.bl (!decide (a = b))) S
  | .bl a, .bl b => Q (.bl (!decide (a = b))) S
  | x, y => okE x = true ∧ okE y = true ∧ Q (.bl (!eqD x y)) S
theorem V.str_inj {a b : Str} : decide (V.str a = V.str b) = decide (a = b) := decide_eq_decide.mpr ⟨fun h => V.str.inj h, fun h => by rw [h]⟩
theorem V.int_inj {a b : Int} : decide (V.int a = V.int b) = decide (a = b) := decide_eq_decide.mpr ⟨fun h => V.int.inj h, fun h => by rw [h]⟩
theorem V.bl_inj {a b : Bool} : decide (V.bl a = V.bl b) = decide (a = b) := decide_eq_decide.mpr ⟨fun h => V.bl.inj h, fun h => by rw [h]⟩
def rEqA (K : PySem.W.Frag) : R2 := fun x y H Q => rEq x y H Q ∨ rEqD K x y H Q
def rNeA (K : PySem.W.Frag) : R2 := fun x y H Q => rNe x y H Q ∨ rNeD K x y H Q
theorem okE_dp {S : Sto} {H : Hp} {d : D} {v : V} (h : okE d = true) (r : Rep K S H d v) : Dp K.K H v (py d) ∧ SeqAt.shaped (py d) = true := by
  unfold okE at h
  rw [Bool.and_eq_true] at h
  exact ⟨Rep.dp _ _ h.1 r, h.2⟩
theorem opd_eq : OpD K (rEqA K.K) eqP := by
  intro S H x y v w Qd Q R rx ry q f
  have deep : (okE x = true ∧ okE y = true ∧ Qd (.bl (eqD x y)) S) → rEqA K.K v w H Q := fun ⟨a, b, q⟩ =>
    .inr ⟨_, _, (okE_dp a rx).1, (okE_dp b ry).1, (okE_dp a rx).2, (okE_dp b ry).2, f.here R (.bl _) q⟩
  unfold eqP at q
  split at q
  · cases rx; cases ry; exact .inl ⟨rfl, by rw [V.str_inj]; exact f.here R (.bl _) q⟩
  · cases rx; cases ry; exact .inl ⟨rfl, by rw [V.int_inj]; exact f.here R (.bl _) q⟩
  · cases rx; cases ry; exact .inl ⟨rfl, by rw [V.bl_inj]; exact f.here R (.bl _) q⟩
  · exact deep q
theorem opd_ne : OpD K (rNeA K.K) neP := by
  intro S H x y v w Qd Q R rx ry q f
  have deep : (okE x = true ∧ okE y = true ∧ Qd (.bl (!eqD x y)) S) → rNeA K.K v w H Q := fun ⟨a, b, q⟩ =>
    .inr ⟨_, _, (okE_dp a rx).1, (okE_dp b ry).1, (okE_dp a rx).2, (okE_dp b ry).2, f.here R (.bl _) q⟩
  unfold neP at q
  split at q
  · cases rx; cases ry; exact .inl ⟨rfl, by rw [V.str_inj]; exact f.here R (.bl _) q⟩
  · cases rx; cases ry; exact .inl ⟨rfl, by rw [V.int_inj]; exact f.here R (.bl _) q⟩
  · cases rx; cases ry; exact .inl ⟨rfl, by rw [V.bl_inj]; exact f.here R (.bl _) q⟩
  · exact deep q
/-- x in l, a list or a tuple; a sign in a text -/
def inP (neg : Bool) : D2 := fun x y S Q => match x, y with
  | .str c, .str z => match c.cps.toList with
    | [k] => Q (.bl (neg != decide (k ∈ z.cps.toList))) S
    | _ => False
  | x, y => match seqOf S y with
    | some ds => okE x = true ∧ okE (.lst ds) = true ∧ Q (.bl (neg != ds.any fun z => eqD z x)) S
    | none => False
def rInA (K : PySem.W.Frag) (neg : Bool) : R2 := fun x y H Q => (∃ (c : Nat) (z : Str), x = .str ⟨#[c]⟩ ∧ y = .str z ∧ Q (.bl (neg != decide (c ∈ z.cps.toList))) H) ∨
  (∃ p d xs, y = .ref p ∧ Dp K H x d ∧ (Dp K H y (.list xs) ∨ Dp K H y (.tuple xs)) ∧ SeqAt.shaped d = true ∧ SeqAt.shaped (.list xs) = true ∧ Q (.bl (neg != xs.any fun z => PyData.eqv z d)) H)
theorem any_py (x : D) : ∀ ds : List D, ((pyAll ds).any fun z => PyData.eqv z (py x)) = ds.any fun z => eqD z x
  | [] => rfl
  | d :: ds => by rw [pyAll, List.any_cons, List.any_cons, any_py x ds]; rfl
theorem opd_in {neg : Bool} : OpD K (rInA K.K neg) (inP neg) := by
  intro S H x y v w Qd Q R rx ry q f
  have deep : (match seqOf S y with
    | some ds => okE x = true ∧ okE (.lst ds) = true ∧ Qd (.bl (neg != ds.any fun z => eqD z x)) S
    | none => False) → rInA K.K neg v w H Q := fun q => by
    cases hs : seqOf S y with
    | none => simp only [hs] at q
    | some ds =>
      simp only [hs] at q
      obtain ⟨a, us, rfl, sa, za, ra⟩ := seq_read R ry hs
      obtain ⟨ox, ol, q⟩ := q
      have pl : plainAll ds = true := by unfold okE at ol; rw [Bool.and_eq_true] at ol; exact ol.1
      have sl : SeqAt.shaped (.list (pyAll ds)) = true := by unfold okE at ol; rw [Bool.and_eq_true] at ol; exact ol.2
      refine .inr ⟨a, py x, pyAll ds, rfl, (okE_dp ox rx).1, sa.imp (fun sa => .lst sa (RepL.dp _ _ pl ra)) (fun sa => .tup sa (RepL.dp _ _ pl ra)), (okE_dp ox rx).2, sl, ?_⟩
      rw [any_py]
      exact f.here R (.bl _) q
  unfold inP at q
  split at q
  · rename_i c z
    split at q
    · rename_i k hk
      cases rx; cases ry
      have ec : c = ⟨#[k]⟩ := by
        obtain ⟨cps⟩ := c
        simp only at hk
        rw [← hk]
      exact .inl ⟨k, z, by rw [ec], rfl, f.here R (.bl _) q⟩
    · exact q.elim
  · exact deep q
end
section
variable {X : Cx}
theorem op_inA (hu : X.A.units + 65 < cLine) : OpR X (compareOp .In) (rInA X.K false) := by
  intro pins s σ H x y v u Q I rx ry h
  rcases h with ⟨c, z, rfl, rfl, q⟩ | ⟨p, d, xs, rfl, hx, hy, sd, sl, q⟩
  · exact op_in_sign pins s σ H _ _ v u Q I rx ry ⟨c, z, rfl, rfl, by simpa using q⟩
  · obtain ⟨as, r1⟩ := Dp.reads I d x v hx rx
    have q' : Q (.bl (xs.any fun z => PyData.eqv z d)) H := by simpa using q
    rcases hy with hy | hy
    · obtain ⟨bs, r2⟩ := Dp.reads I _ _ u hy ry
      exact SeqAt.in_list_reads r2 r1 (SeqAt.canLay_of_shaped sl) (SeqAt.canLay_of_shaped sd) (room_in_shaped sd hu) ⟨.bl _, H, I, rfl, q'⟩
    · obtain ⟨bs, r2⟩ := Dp.reads I _ _ u hy ry
      exact SeqAt.in_tuple_reads r2 r1 (SeqAt.canLay_of_shaped sl) (SeqAt.canLay_of_shaped sd) (room_in_shaped sd hu) ⟨.bl _, H, I, rfl, q'⟩
theorem op_notInA (hu : X.A.units + 65 < cLine) : OpR X (compareOp .NotIn) (rInA X.K true) := by
  intro pins s σ H x y v u Q I rx ry h
  rcases h with ⟨c, z, rfl, rfl, q⟩ | ⟨p, d, xs, rfl, hx, hy, sd, sl, q⟩
  · exact op_notIn_sign pins s σ H _ _ v u Q I rx ry ⟨c, z, rfl, rfl, by simpa using q⟩
  · obtain ⟨as, r1⟩ := Dp.reads I d x v hx rx
    have q' : Q (.bl (!xs.any fun z => PyData.eqv z d)) H := by simpa using q
    rcases hy with hy | hy
    · obtain ⟨bs, r2⟩ := Dp.reads I _ _ u hy ry
      exact SeqAt.notIn_list_reads r2 r1 (SeqAt.canLay_of_shaped sl) (SeqAt.canLay_of_shaped sd) (room_in_shaped sd hu) ⟨.bl _, H, I, rfl, q'⟩
    · obtain ⟨bs, r2⟩ := Dp.reads I _ _ u hy ry
      exact SeqAt.notIn_tuple_reads r2 r1 (SeqAt.canLay_of_shaped sl) (SeqAt.canLay_of_shaped sd) (room_in_shaped sd hu) ⟨.bl _, H, I, rfl, q'⟩
variable {B : Bs} {a b c : Expr} {ma mb mc : ME} {pos : Pos} {k : Nat}
theorem de_add (ha : DE X B a ma) (hb : DE X B b mb) : DE X B (.BinOp a .Add b pos) (dOp addP ma mb) := de_op op_addA opd_add ha hb
theorem de_sub (ha : DE X B a ma) (hb : DE X B b mb) : DE X B (.BinOp a .Sub b pos) (dOp subP ma mb) := de_op op_sub opd_sub ha hb
theorem de_mul (ha : DE X B a ma) (hb : DE X B b mb) : DE X B (.BinOp a .Mult b pos) (dOp mulP ma mb) := de_op op_mul opd_mul ha hb
theorem de_fdiv (ha : DE X B a ma) (hb : DE X B b mb) : DE X B (.BinOp a .FloorDiv b pos) (dOp fdivP ma mb) := de_op op_fdivW opd_fdiv ha hb
theorem de_mod (ha : DE X B a ma) (hb : DE X B b mb) : DE X B (.BinOp a .Mod b pos) (dOp modP ma mb) := de_op op_modN opd_mod ha hb
theorem de_pow (ha : DE X B a ma) (hb : DE X B b mb) : DE X B (.BinOp a .Pow b pos) (dOp powP ma mb) := de_op op_pow opd_pow ha hb
theorem de_neg (ha : DE X B a ma) : DE X B (.UnaryOp .USub a pos) (dUn negP ma) := de_un un_neg und_neg ha
abbrev ltP : D2 := cmpP fun i j => decide (i < j)
abbrev leP : D2 := cmpP fun i j => decide (i ≤ j)
abbrev gtP : D2 := cmpP fun i j => decide (j < i)
abbrev geP : D2 := cmpP fun i j => decide (j ≤ i)
theorem op_eqA (hu : X.A.units + 64 < cLine) : OpR X (compareOp .Eq) (rEqA X.K) := op_eq.or (op_eqD hu)
theorem op_neA (hu : X.A.units + 64 < cLine) : OpR X (compareOp .NotEq) (rNeA X.K) := op_ne.or (op_neD hu)
theorem Amb.u64 (m : Amb X.A k) : X.A.units + 64 < cLine := m.room.units
theorem Amb.u65 (m : Amb X.A k) : X.A.units + 65 < cLine := by have := m.room.un; omega
/-- a comparison's rule and its reading: one operator -/
structure CmpD (X : Cx) (B : Bs) (op : CmpOp) (p : D2) : Prop where
  rule : ∃ r, OpR X (compareOp op) r ∧ OpD (kz X B) r p
theorem cd_lt : CmpD X B .Lt ltP := ⟨_, op_lt, opd_cmp⟩
theorem cd_le : CmpD X B .LtE leP := ⟨_, op_le, opd_cmp⟩
theorem cd_gt : CmpD X B .Gt gtP := ⟨_, op_gt, opd_cmp⟩
theorem cd_ge : CmpD X B .GtE geP := ⟨_, op_ge, opd_cmp⟩
theorem cd_eq (m : Amb X.A k) : CmpD X B .Eq eqP := ⟨_, op_eqA m.u64, opd_eq⟩
theorem cd_ne (m : Amb X.A k) : CmpD X B .NotEq neP := ⟨_, op_neA m.u64, opd_ne⟩
theorem cd_in (m : Amb X.A k) : CmpD X B .In (inP false) := ⟨_, op_inA m.u65, opd_in⟩
theorem cd_notIn (m : Amb X.A k) : CmpD X B .NotIn (inP true) := ⟨_, op_notInA m.u65, opd_in⟩
theorem de_cmp1 {op : CmpOp} {p : D2} (h : CmpD X B op p) (ha : DE X B a ma) (hb : DE X B b mb) (hm : behindInMarks op b = false := by first | rfl | exact nomark _) : DE X B (.Compare a [op] [b] pos) (dOp p ma mb) :=
  let ⟨_, h1, h2⟩ := h.rule
  de_cmp h1 h2 ha hb hm
theorem dt_cmp1 {op : CmpOp} {p : D2} (h : CmpD X B op p) (ha : DE X B a ma) (hb : DE X B b mb) (hm : behindInMarks op b = false := by first | rfl | exact nomark _) : DT X B (.Compare a [op] [b] pos) (dTest (dOp p ma mb)) :=
  let ⟨_, h1, h2⟩ := h.rule
  dt_cmp h1 h2 ha hb hm
/-- is None, is not None -/
def isNon : D → Bool
  | .non => true
  | _ => false
def isNP (neg : Bool) : D1 := fun x S Q => Q (.bl (neg != isNon x)) S
theorem Rep.non_iff {K : Kz} {S : Sto} {H : Hp} {d : D} {v : V} (r : Rep K S H d v) : decide (v = .non) = isNon d := by
  cases r <;> rfl
def dIsN (neg : Bool) (m : ME) : ME := fun env S Q => m env S fun x S1 => isNP neg x S1 Q
theorem isN_fin {K : Kz} {S : Sto} {H : Hp} {d : D} {v : V} {neg : Bool} {Qd : DQ} {Q : VK} (R : Rel K S H) (r : Rep K S H d v) (q : isNP neg d S Qd) (f : Fin K S H Qd Q) : Q (.bl (neg != decide (v = .non))) H := by
  rw [r.non_iff]
  exact f.here R (.bl _) q
theorem tIsN_of {σ : L2.St} {H : Hp} {Q : VK} (q : cE (kz X B) B (dIsN false ma) σ H Q) : tIsN (cE (kz X B) B ma) σ H Q := by
  obtain ⟨env, S, Qd, s, q, f⟩ := q
  exact ⟨env, S, _, s, q, fun d S1 v H1 x1 R1 r1 q1 => by simpa using isN_fin R1 r1 q1 (f.after x1)⟩
theorem tNotN_of {σ : L2.St} {H : Hp} {Q : VK} (q : cE (kz X B) B (dIsN true ma) σ H Q) : tNotN (cE (kz X B) B ma) σ H Q := by
  obtain ⟨env, S, Qd, s, q, f⟩ := q
  exact ⟨env, S, _, s, q, fun d S1 v H1 x1 R1 r1 q1 => by simpa using isN_fin R1 r1 q1 (f.after x1)⟩
theorem de_isN {j : Nat} {pos' : Pos} (ha : DE X B a ma) : DE X B (.Compare a [.Is] [.Constant .none j pos'] pos) (dIsN false ma) := PE_imp (pe_cmp (pc_isN ha)) fun _ _ _ q => tIsN_of q
theorem de_notN {j : Nat} {pos' : Pos} (ha : DE X B a ma) : DE X B (.Compare a [.IsNot] [.Constant .none j pos'] pos) (dIsN true ma) := PE_imp (pe_cmp (pc_notN ha)) fun _ _ _ q => tNotN_of q
theorem dt_isN {j : Nat} {pos' : Pos} (ha : DE X B a ma) : DT X B (.Compare a [.Is] [.Constant .none j pos'] pos) (dTest (dIsN false ma)) := PT_imp (pt_cmp (pc_isN ha)) fun _ _ _ q => tTest_of (fun _ _ _ q => tIsN_of q) q
theorem dt_notN {j : Nat} {pos' : Pos} (ha : DE X B a ma) : DT X B (.Compare a [.IsNot] [.Constant .none j pos'] pos) (dTest (dIsN true ma)) := PT_imp (pt_cmp (pc_notN ha)) fun _ _ _ q => tTest_of (fun _ _ _ q => tNotN_of q) q
end
end DL
namespace DL
open PySem PySem.Spec PyProof.Rows L2
/-! ### two comparisons -/
def dChain (p p' : D2) (ma mb mc : ME) : ME := fun env S Q => ma env S fun x S1 => mb env S1 fun y S2 => p x y S2 fun z S3 => match z with
  | .bl true => mc env S3 fun u S4 => p' y u S4 Q
  | .bl false => Q (.bl false) S3
  | _ => False
section
variable {X : Cx} {B : Bs} {a b c e o : Expr} {ma mb mc me mo : ME} {es : List Expr} {mr : MA} {pos pc apos : Pos} {k : Nat}
theorem tChain_of {r r' : R2} {p p' : D2} (h : OpD (kz X B) r p) (h' : OpD (kz X B) r' p') {σ : L2.St} {H : Hp} {Q : VK} (q : cE (kz X B) B (dChain p p' ma mb mc) σ H Q) : tChain r r' (cE (kz X B) B ma) (cE (kz X B) B mb) (cE (kz X B) B mc) σ H Q := by
  obtain ⟨env, S, Qd, s, q, f⟩ := q
  refine ⟨env, S, _, s, q, fun x S1 v H1 x1 R1 r1 q1 => ?_⟩
  refine ⟨env, S1, _, s.mono x1 R1, q1, fun y S2 w H2 x2 R2 r2 q2 => ?_⟩
  have s2 := (s.mono x1 R1).mono x2 R2
  refine h S2 H2 x y v w _ _ R2 (Rep.mono R1 x2 _ _ r1) r2 q2 fun z S3 zv H3 x3 R3 r3 q3 => ?_
  have f3 := ((f.after x1).after x2).after x3
  cases z with
  | bl k =>
    cases r3
    refine ⟨k, rfl, ?_⟩
    cases k with
    | false => exact iteF (f3.here R3 (.bl false) q3)
    | true =>
      refine iteT ⟨env, S3, _, s2.mono x3 R3, q3, fun u S4 uv H4 x4 R4 r4 q4 => ?_⟩
      exact h' S4 H4 y u w uv _ Q R4 (Rep.mono R2 (x3.trans x4) _ _ r2) r4 q4 (f3.after x4)
  | _ => exact q3.elim
theorem de_chain {op op' : CmpOp} {p p' : D2} (h : CmpD X B op p) (h' : CmpD X B op' p') (ha : DE X B a ma) (hb : DE X B b mb) (hc : DE X B c mc) (hm : lastMarks [op, op'] [b, c] = false := by with_unfolding_all rfl) : DE X B (.Compare a [op, op'] [b, c] pos) (dChain p p' ma mb mc) :=
  let ⟨_, h1, h2⟩ := h.rule
  let ⟨_, h3, h4⟩ := h'.rule
  PE_imp (pe_chain h1 h3 ha hb hc hm) fun _ _ _ q => tChain_of h2 h4 q
theorem dt_chain {op op' : CmpOp} {p p' : D2} (h : CmpD X B op p) (h' : CmpD X B op' p') (ha : DE X B a ma) (hb : DE X B b mb) (hc : DE X B c mc) (hm : lastMarks [op, op'] [b, c] = false := by with_unfolding_all rfl) : DT X B (.Compare a [op, op'] [b, c] pos) (dTest (dChain p p' ma mb mc)) :=
  let ⟨_, h1, h2⟩ := h.rule
  let ⟨_, h3, h4⟩ := h'.rule
  PT_imp (pt_chain h1 h3 ha hb hc hm) fun _ _ _ q => tTest_of (fun _ _ _ q => tChain_of h2 h4 q) q
/-! ### items -/
def ixP : D2 := fun x y S Q => match y with
  | .int i => match x with
    | .str z => z.length ≤ sizeLine ∧ match atI z.cps.toList i with
      | some c => Q (.str ⟨#[c]⟩) S
      | none => False
    | x => match seqOf S x with
      | some ds => match atI ds i with
        | some d => Q d S
        | none => False
      | none => False
  | _ => False
theorem atI_rep {K : Kz} {S : Sto} {H : Hp} {ds : List D} {vs : List V} {i : Int} {d : D} (r : RepL K S H ds vs) (h : atI ds i = some d) : ∃ v, atI vs i = some v ∧ Rep K S H d v := by
  unfold atI at h ⊢
  rw [← r.length]
  cases e : ixN ds.length i with
  | none => rw [e] at h; cases h
  | some j => rw [e] at h; exact r.get h
theorem ixd_seq {K : Kz} : OpD K (rIx K.K) ixP := by
  intro S H x y v w Qd Q R rx ry q f
  unfold ixP at q
  split at q
  · rename_i i
    cases ry
    split at q
    · rename_i z
      cases rx
      obtain ⟨hz, q⟩ := q
      cases h : atI z.cps.toList i with
      | none => simp only [h] at q
      | some c => simp only [h] at q; exact .inr (.inr ⟨z, i, c, rfl, rfl, hz, h, f.here R (.str _) q⟩)
    · cases hs : seqOf S x with
      | none => simp only [hs] at q
      | some ds =>
        simp only [hs] at q
        cases h : atI ds i with
        | none => simp only [h] at q
        | some d =>
          simp only [h] at q
          obtain ⟨a, us, rfl, sa, za, ra⟩ := seq_read R rx hs
          obtain ⟨u, hu, ru⟩ := atI_rep ra h
          rcases sa with sa | sa
          · exact .inl ⟨a, us, i, u, rfl, rfl, sa, hu, f.here R ru q⟩
          · exact .inr (.inl ⟨a, us, i, u, rfl, rfl, sa, hu, f.here R ru q⟩)
  · exact q.elim
theorem de_ix (ha : DE X B a ma) (hb : DE X B b mb) (hs : PlainIx b := by intro _ _; rfl) : DE X B (.Subscript a b pos) (dOp ixP ma mb) := PE_imp (pe_ix ix_seq ha hb hs) fun _ _ _ q => tOp_of ixd_seq q
/-! ### slices -/
abbrev MO := DEnv → Sto → (Option Int → Sto → Prop) → Prop
def cO (K : Kz) (B : Bs) (m : MO) : TO := fun σ H Q => ∃ env S Qd, StOk K B S H env σ ∧ m env S Qd ∧ ∀ o S' H', Ext S H S' H' → Rel K S' H' → Qd o S' → Q o H'
def dNoPart : MO := fun _ S Q => Q none S
def dPart (m : ME) : MO := fun env S Q => m env S fun x S1 => match x with
  | .int i => Q (some i) S1
  | _ => False
theorem PO_imp {X : Cx} {e : Option Expr} {t t' : TO} (h : PO X e t) (i : ∀ σ H Q, t' σ H Q → t σ H Q) : PO X e t' := ⟨fun pins s σ H Q I q => h.run pins s σ H Q I (i σ H Q q)⟩
theorem do_none : PO X none (cO (kz X B) B dNoPart) := PO_imp po_none fun σ H Q ⟨env, S, Qd, s, q, f⟩ => f none S H Ext.refl s.rel q
theorem do_some (h : DE X B e me) : PO X (some e) (cO (kz X B) B (dPart me)) := PO_imp (po_some h) fun σ H Q ⟨env, S, Qd, s, q, f⟩ => by
  refine ⟨env, S, _, s, q, fun x S1 v H1 x1 R1 r1 q1 => ?_⟩
  cases x with
  | int i => cases r1; exact ⟨i, rfl, f _ S1 H1 x1 R1 q1⟩
  | _ => exact q1.elim
/-- the items from lo to hi -/
def cutD {α : Type} (xs : List α) (lo hi : Option Int) : List α := (xs.drop (HT.sIx xs.length 0 lo)).take (HT.sIx xs.length xs.length hi - HT.sIx xs.length 0 lo)
def slP (x : D) (lo hi : Option Int) (S : Sto) (Q : DQ) : Prop := match x with
  | .tup ds => Q (.tup (cutD ds lo hi)) S
  | .str z => z.length ≤ sizeLine ∧ Q (.str (cutS z lo hi)) S
  | x => match lstOf S x with
    | some ds => Q (.lst (cutD ds lo hi)) S
    | none => False
def dSl (m : ME) (ml mh : MO) : ME := fun env S Q => m env S fun x S1 => ml env S1 fun l S2 => mh env S2 fun h S3 => slP x l h S3 Q
theorem cut_rep {K : Kz} {S : Sto} {H : Hp} {ds : List D} {vs : List V} {lo hi : Option Int} (r : RepL K S H ds vs) : RepL K S H (cutD ds lo hi) (cutV vs lo hi) := by
  unfold cutD cutV
  rw [← r.length]
  exact (r.drop _).take _
theorem cutD_whole {α : Type} (xs : List α) (lo hi : Option Int) (h : HT.sIx xs.length 0 lo = 0 ∧ HT.sIx xs.length xs.length hi = xs.length) : cutD xs lo hi = xs := by
  unfold cutD
  rw [h.1, h.2, List.drop_zero, Nat.sub_zero, List.take_length]
def rSlAny (K : PySem.W.Frag) : V → Option Int → Option Int → Hp → VK → Prop := fun x lo hi H Q => rSlL K x lo hi H Q ∨ rSlA K x lo hi H Q
theorem de_slice {l h : Option Expr} {ml mh : MO} {p2 : Pos} (he : DE X B e me) (hl : PO X l (cO (kz X B) B ml)) (hh : PO X h (cO (kz X B) B mh)) : DE X B (.Subscript e (.Slice l h none p2) pos) (dSl me ml mh) :=
  PE_imp (pe_slice ((sl_list.or sl_tupA).or sl_str) he hl hh) fun σ H Q ⟨env, S, Qd, s, q, f⟩ => by
  refine ⟨env, S, _, s, q, fun x S1 v H1 x1 R1 r1 q1 => ?_⟩
  refine ⟨env, S1, _, s.mono x1 R1, q1, fun lo S2 H2 x2 R2 q2 => ?_⟩
  refine ⟨env, S2, _, (s.mono x1 R1).mono x2 R2, q2, fun hi S3 H3 x3 R3 q3 => ?_⟩
  have r3 := Rep.mono R1 (x2.trans x3) _ _ r1
  have f3 := ((f.after x1).after x2).after x3
  have lists : ∀ {d : D}, Rep (kz X B) S3 H3 d v → (match lstOf S3 d with
    | some ds => Qd (.lst (cutD ds lo hi)) S3
    | none => False) → (rSlL X.K v lo hi H3 Q ∨ rSlA X.K v lo hi H3 Q) ∨ rSlS v lo hi H3 Q := fun {d} r q => by
    cases hs : lstOf S3 d with
    | none => simp only [hs] at q
    | some ds =>
      simp only [hs] at q
      obtain ⟨a, us, rfl, sa, za, ra⟩ := lst_read R3 r hs
      exact .inl (.inl ⟨a, us, rfl, sa, fun p n => f3.lst R3 n (Nat.le_trans (cutV_length _ _ _) za) (cut_rep ra) q⟩)
  cases x with
  | str z =>
    cases r3
    exact .inr ⟨z, rfl, q3.1, f3.here R3 (.str _) q3.2⟩
  | tup ds =>
    cases r3 with
    | @tup a us _ sa za ra =>
      refine .inl (.inr ⟨a, us, rfl, sa.sq, fun hw => ?_, fun _ p n => f3.tup R3 n (Nat.le_trans (cutV_length _ _ _) za) (cut_rep ra) q3⟩)
      have e : cutD ds lo hi = ds := cutD_whole ds lo hi (by rw [ra.length]; exact hw)
      have q3 : Qd (.tup (cutD ds lo hi)) S3 := q3
      rw [e] at q3
      exact f3.here R3 (.tup sa za ra) q3
  | _ => exact lists r3 q3
/-! ### stores -/
def dgSub (mo mi : ME) : MG := fun d env S Q => mo env S fun x S1 => mi env S1 fun y S2 => match x, y with
  | .ref a, .int i => match S2 a with
    | some (.lst ds) => match ixN ds.length i with
      | some j => Q env (put S2 a (.lst (ds.set j d)))
      | none => False
    | _ => False
  | _, _ => False
theorem own_set {K : Kz} {S : Sto} {H : Hp} {a : Addr} {ds : List D} {vs : List V} (R : Rel K S H) (e : S a = some (.lst ds)) (z : vs.length ≤ sizeLine) {o : List D} (r : RepL K S H o vs) : Ext S H (put S a (.lst o)) (upd H a (.lst vs)) ∧ Rel K (put S a (.lst o)) (upd H a (.lst vs)) := by
  have x : Ext S H (put S a (.lst o)) (upd H a (.lst vs)) := Ext.write e
  exact ⟨x, R.put x ⟨vs, upd_same, z, RepL.mono R x _ _ r⟩ (R.nz' e)⟩
theorem dg_sub (ho : DE X B o mo) (hi : DE X B b mb) (ha : ∀ v, assign (.Subscript o b pos) X.env v = (do
      let ov ← holding [v] (eval o X.env)
      let iv ← holding [v, ov] (eval b X.env)
      standAt pos
      holding [v, ov, iv] (setItem ov iv v)
      release [v, ov, iv] []) := by intro _; rfl) : DG X B (.Subscript o b pos) (dgSub mo mb) := PG_imp (pg_sub ho hi set_list ha) fun v σ H Q ⟨d, env, S, Qd, s, r, q, f⟩ => by
  refine ⟨env, S, _, s, q, fun x S1 xv H1 x1 R1 r1 q1 => ?_⟩
  refine ⟨env, S1, _, s.mono x1 R1, q1, fun y S2 yv H2 x2 R2 r2 q2 => ?_⟩
  have s2 := (s.mono x1 R1).mono x2 R2
  split at q2
  · rename_i a i
    cases r1
    cases r2
    split at q2
    · rename_i ds h
      split at q2
      · rename_i j hj
        obtain ⟨vs, hv, z, rr⟩ := R2.get a _ h
        have rd := Rep.mono s.rel (x1.trans x2) _ _ r
        obtain ⟨x3, R3⟩ := own_set (vs := vs.set j v) R2 h (by rw [List.length_set]; exact z) (rr.set rd j)
        refine ⟨a, vs, i, j, rfl, rfl, hv, by rw [← rr.length]; exact hj, f env _ σ _ ((x1.trans x2).trans x3) (s2.mono x3 R3) q2⟩
      · exact q2.elim
    · exact q2.elim
  · exact q2.elim
/-! ### methods of built-in types, by values -/
abbrev DM := D → List D → Sto → DQ → Prop
def MtD (K : Kz) (r : V → List V → Hp → VK → Prop) (p : DM) : Prop := ∀ (S : Sto) (H : Hp) x v ds vs Qd Q, Rel K S H → Rep K S H x v → RepL K S H ds vs → p x ds S Qd → Fin K S H Qd Q → r v vs H Q
/-- what type the receiver has -/
def tyD (S : Sto) : D → Option String
  | .str _ => some "str"
  | .int _ => some "int"
  | .lst _ => some "list"
  | .dK _ _ => some "dict"
  | .dT _ _ => some "dict"
  | .ref a => match S a with
    | some (.lst _) => some "list"
    | some (.dK _ _) => some "dict"
    | some (.dT _ _) => some "dict"
    | _ => none
  | _ => none
theorem tyD_v {K : Kz} {S : Sto} {H : Hp} {d : D} {v : V} {T : String} (R : Rel K S H) (r : Rep K S H d v) (h : tyD S d = some T) : tyV K.K T v H := by
  cases d with
  | str x => cases r; cases h; exact rfl
  | int x => cases r; cases h; exact rfl
  | lst ds => cases h; cases r with | lst l _ _ => exact .inl ⟨rfl, _, l.sq⟩
  | dK ks ds => cases h; cases r with | dK n q _ _ => exact .inr (.inr (.inl ⟨rfl, .inl ⟨_, q⟩⟩))
  | dT ks ds => cases h; cases r with | dT n q _ _ => exact .inr (.inr (.inl ⟨rfl, .inr ⟨_, q⟩⟩))
  | ref a =>
    cases r
    unfold tyD at h
    cases e : S a with
    | none => simp only [e] at h; cases h
    | some o =>
      have q := R.get a o e
      cases o with
      | lst ds => simp only [e] at h; cases h; obtain ⟨vs, q, _⟩ := q; exact .inl ⟨rfl, _, .inl (.inl q)⟩
      | dK ks ds => simp only [e] at h; cases h; obtain ⟨vs, q, _⟩ := q; exact .inr (.inr (.inl ⟨rfl, .inl ⟨_, q⟩⟩))
      | dT ks ds => simp only [e] at h; cases h; obtain ⟨vs, q, _⟩ := q; exact .inr (.inr (.inl ⟨rfl, .inr ⟨_, q⟩⟩))
      | obj C ns ds => simp only [e] at h; cases h
      | ts Φ cs => simp only [e] at h; cases h
  | _ => cases h
def dMeth (T : String) (p : DM) (m : ME) (t : MA) : ME := fun env S Q => m env S fun x S1 => tyD S1 x = some T ∧ t env S1 fun ds S2 => p x ds S2 Q
variable {name : Str} {T mid : String} {r : V → List V → Hp → VK → Prop} {p : DM}
theorem de_meth (pa : PlainAttrs T) (slot : Slot T name mid) (hty : typeOf (.builtin mid) = pure (.type "method_descriptor")) (hm : MtR X mid r) (h : MtD (kz X B) r p) (ho : DE X B o mo) (ha : DA X B (e :: es) mr)
    (hbase : attributeBase o name X.env (eval o X.env) = eval o X.env := by rfl)
    (hfew : ((backTo pc (starEach (e :: es) X.env)).all (fun x => !x.1) && (backToKw pc (keywordEach [] X.env)).all (fun x => x.1.isSome) && decide ((e :: es).length + ([] : List Keyword).length + (if ([] : List Keyword).isEmpty then 0 else 1) < 30)) = true := by rfl)
    (hline : (apos.endLine == pc.line) = true := by rfl) (hs : starEach (e :: es) X.env = (false, eval e X.env) :: starEach es X.env := by rfl) (hplain : (backTo pc (starEach es X.env)).any (·.1) = false := by rfl) :
    DE X B (.Call (.Attribute o name apos) (e :: es) [] pc) (dMeth T p mo mr) := PE_imp (pe_bm pa slot hty hm ho ha hbase hfew hline hs hplain) fun σ H Q ⟨env, S, Qd, s, q, f⟩ => by
  refine ⟨env, S, _, s, q, fun x S1 v H1 x1 R1 r1 q1 => ⟨tyD_v R1 r1 q1.1, ?_⟩⟩
  exact ⟨env, S1, _, s.mono x1 R1, q1.2, fun ds S2 vs H2 x2 R2 r2 q2 => h S2 H2 x v ds vs Qd Q R2 (Rep.mono R1 x2 _ _ r1) r2 q2 ((f.after x1).after x2)⟩
theorem de_meth0 (pa : PlainAttrs T) (slot : Slot T name mid) (hty : typeOf (.builtin mid) = pure (.type "method_descriptor")) (hm : MtR X mid r) (h : MtD (kz X B) r p) (ho : DE X B o mo)
    (hbase : attributeBase o name X.env (eval o X.env) = eval o X.env := by rfl) (hline : (apos.endLine == pc.line) = true := by rfl) :
    DE X B (.Call (.Attribute o name apos) [] [] pc) (dMeth T p mo dNil) := PE_imp (pe_bm0 pa slot hty hm ho hbase hline) fun σ H Q ⟨env, S, Qd, s, q, f⟩ => by
  refine ⟨env, S, _, s, q, fun x S1 v H1 x1 R1 r1 q1 => ⟨tyD_v R1 r1 q1.1, ?_⟩⟩
  exact h S1 H1 x v [] [] Qd Q R1 r1 .nil q1.2 (f.after x1)
/-- l.append(d) of an owned list -/
def appendP : DM := fun x ds S Q => match x, ds with
  | .ref a, [d] => match S a with
    | some (.lst xs) => xs.length < sizeLine ∧ Q .non (put S a (.lst (xs ++ [d])))
    | _ => False
  | _, _ => False
theorem mtd_append {K : Kz} : MtD K rAppend appendP := by
  intro S H x v ds vs Qd Q R rx rd q f
  unfold appendP at q
  split at q
  · rename_i a d
    split at q
    · rename_i xs h
      cases rx
      obtain ⟨w, rfl, rw'⟩ := rd.single
      obtain ⟨us, hu, z, rr⟩ := R.get a _ h
      have hz : us.length < sizeLine := by rw [← rr.length]; exact q.1
      obtain ⟨x3, R3⟩ := own_set (vs := us ++ [w]) R h (by rw [List.length_append, List.length_singleton]; omega) (rr.append (.cons rw' .nil))
      exact ⟨a, us, w, rfl, rfl, hu, hz, f .non _ .non _ x3 R3 .non q.2⟩
    · exact q.elim
  · exact q.elim
theorem de_append (ho : DE X B o mo) (ha : DA X B [e] mr) (hbase : attributeBase o "append" X.env (eval o X.env) = eval o X.env := by rfl)
    (hfew : ((backTo pc (starEach [e] X.env)).all (fun x => !x.1) && (backToKw pc (keywordEach [] X.env)).all (fun x => x.1.isSome) && decide ([e].length + ([] : List Keyword).length + (if ([] : List Keyword).isEmpty then 0 else 1) < 30)) = true := by rfl)
    (hline : (apos.endLine == pc.line) = true := by rfl) (hs : starEach [e] X.env = (false, eval e X.env) :: starEach [] X.env := by rfl) :
    DE X B (.Call (.Attribute o "append" apos) [e] [] pc) (dMeth "list" appendP mo mr) :=
  de_meth PySem.F.plainAttrs_list PySem.F.slot_list_append PySem.F.type_list_append mt_append mtd_append ho ha hbase hfew hline hs rfl
/-! ### built-in functions -/
def lenP : DN := fun ds S Q => match ds with
  | [.str x] => x.length ≤ sizeLine ∧ Q (.int x.length) S
  | [d] => match seqOf S d with
    | some xs => Q (.int xs.length) S
    | none => False
  | _ => False
theorem cad_len {K : Kz} : CallD K (fun xs H Q => ∃ x n, xs = [x] ∧ LenV K.K x H n ∧ Q (.int n) H) lenP := by
  intro S H ds vs Qd Q R r q f
  unfold lenP at q
  split at q
  · obtain ⟨v, rfl, rv⟩ := r.single
    cases rv
    exact ⟨_, _, rfl, ⟨q.1, rfl⟩, f.here R (.int _) q.2⟩
  · obtain ⟨v, rfl, rv⟩ := r.single
    split at q
    · rename_i hs
      obtain ⟨a, us, rfl, sa, za, ra⟩ := seq_read R rv hs
      refine ⟨_, us.length, rfl, sa.imp (fun sa => ⟨us, sa, rfl⟩) (fun sa => ⟨us, sa, rfl⟩), ?_⟩
      rw [← ra.length]
      exact f.here R (.int _) q
    · exact q.elim
  · exact q.elim
def absP : DN := fun ds S Q => match ds with
  | [.int i] => Q (.int i.natAbs) S
  | _ => False
theorem cad_abs {K : Kz} : CallD K (fun xs H Q => ∃ i, xs = [.int i] ∧ Q (.int (if i < 0 then -i else i)) H) absP := by
  intro S H ds vs Qd Q R r q f
  unfold absP at q
  split at q
  · rename_i i
    obtain ⟨v, rfl, rv⟩ := r.single
    cases rv
    have e : (if i < 0 then -i else i) = (i.natAbs : Int) := by split <;> omega
    exact ⟨i, rfl, by rw [e]; exact f.here R (.int _) q⟩
  · exact q.elim
def intP : DN := fun ds S Q => match ds with
  | [.int i] => Q (.int i) S
  | [.bl b] => Q (.int (if b = true then 1 else 0)) S
  | _ => False
theorem cad_int {K : Kz} : CallD K (fun xs H Q => (∃ i, xs = [.int i] ∧ Q (.int i) H) ∨ ∃ k, xs = [.bl k] ∧ Q (.int (if k then 1 else 0)) H) intP := by
  intro S H ds vs Qd Q R r q f
  unfold intP at q
  split at q
  · obtain ⟨v, rfl, rv⟩ := r.single
    cases rv
    exact .inl ⟨_, rfl, f.here R (.int _) q⟩
  · obtain ⟨v, rfl, rv⟩ := r.single
    cases rv
    exact .inr ⟨_, rfl, f.here R (.int _) q⟩
  · exact q.elim
def listP : DN := fun ds S Q => match ds with
  | [d] => match seqOf S d with
    | some xs => Q (.lst xs) S
    | none => False
  | _ => False
/-- list(..) that will be changed -/
def listOP : DN := fun ds S Q => match ds with
  | [d] => match seqOf S d with
    | some xs => ∀ p, S p = none → Q (.ref p) (put S p (.lst xs))
    | none => False
  | _ => False
def tupleP : DN := fun ds S Q => match ds with
  | [d] => match seqOf S d with
    | some xs => Q (.tup xs) S
    | none => False
  | _ => False
abbrev rListOf (K : PySem.W.Frag) : List V → Hp → VK → Prop := fun xs H Q => ∃ p ys, xs = [.ref p] ∧ (SqL K H p ys ∨ SqT K H p ys) ∧ ∀ l, H l = none → Q (.ref l) (upd H l (.lst ys))
theorem cad_list {K : Kz} : CallD K (rListOf K.K) listP := by
  intro S H ds vs Qd Q R r q f
  unfold listP at q
  split at q
  · obtain ⟨v, rfl, rv⟩ := r.single
    split at q
    · rename_i hs
      obtain ⟨a, us, rfl, sa, za, ra⟩ := seq_read R rv hs
      exact ⟨a, us, rfl, sa, fun l n => f.lst R n za ra q⟩
    · exact q.elim
  · exact q.elim
theorem cad_listO {K : Kz} : CallD K (rListOf K.K) listOP := by
  intro S H ds vs Qd Q R r q f
  unfold listOP at q
  split at q
  · obtain ⟨v, rfl, rv⟩ := r.single
    split at q
    · rename_i hs
      obtain ⟨a, us, rfl, sa, za, ra⟩ := seq_read R rv hs
      exact ⟨a, us, rfl, sa, fun l n => f.own R n za ra q⟩
    · exact q.elim
  · exact q.elim
theorem cad_tuple {K : Kz} : CallD K (fun xs H Q => ∃ p ys, xs = [.ref p] ∧ ((SqL K.K H p ys ∧ ∀ l, H l = none → Q (.ref l) (upd H l (.tup ys))) ∨ (SqT K.K H p ys ∧ Q (.ref p) H))) tupleP := by
  intro S H ds vs Qd Q R r q f
  unfold tupleP at q
  split at q
  · obtain ⟨v, rfl, rv⟩ := r.single
    split at q
    · rename_i hs
      obtain ⟨a, us, rfl, sa, za, ra⟩ := seq_readT R rv hs
      rcases sa with sa | sa
      · exact ⟨a, us, rfl, .inl ⟨sa, fun l n => f.tup R n za ra q⟩⟩
      · exact ⟨a, us, rfl, .inr ⟨sa.sq, f.here R (.tup sa za ra) q⟩⟩
    · exact q.elim
  · exact q.elim
/-- lists of bools, of ints -/
def boolsOf : List D → Option (List Bool)
  | [] => some []
  | .bl b :: ds => (boolsOf ds).map (b :: ·)
  | _ => none
def intsOf : List D → Option (List Int)
  | [] => some []
  | .int b :: ds => (intsOf ds).map (b :: ·)
  | _ => none
theorem bools_read {K : Kz} {S : Sto} {H : Hp} : ∀ {ds : List D} {vs : List V} {bs : List Bool}, RepL K S H ds vs → boolsOf ds = some bs → vs = bs.map V.bl
  | [], _, _, r, h => by cases r; cases h; rfl
  | .bl b :: ds, _, bs, r, h => by
    cases r with
    | cons a r =>
      cases a
      unfold boolsOf at h
      cases e : boolsOf ds with
      | none => rw [e] at h; cases h
      | some cs => rw [e] at h; cases h; rw [bools_read r e]; rfl
  | .non :: _, _, _, _, h => by cases h
  | .int _ :: _, _, _, _, h => by cases h
  | .str _ :: _, _, _, _, h => by cases h
  | .ref _ :: _, _, _, _, h => by cases h
  | .ty _ :: _, _, _, _, h => by cases h
  | .tup _ :: _, _, _, _, h => by cases h
  | .lst _ :: _, _, _, _, h => by cases h
  | .obj _ _ _ :: _, _, _, _, h => by cases h
  | .dK _ _ :: _, _, _, _, h => by cases h
  | .dT _ _ :: _, _, _, _, h => by cases h
theorem ints_read {K : Kz} {S : Sto} {H : Hp} : ∀ {ds : List D} {vs : List V} {bs : List Int}, RepL K S H ds vs → intsOf ds = some bs → vs = bs.map V.int
  | [], _, _, r, h => by cases r; cases h; rfl
  | .int b :: ds, _, bs, r, h => by
    cases r with
    | cons a r =>
      cases a
      unfold intsOf at h
      cases e : intsOf ds with
      | none => rw [e] at h; cases h
      | some cs => rw [e] at h; cases h; rw [ints_read r e]; rfl
  | .non :: _, _, _, _, h => by cases h
  | .bl _ :: _, _, _, _, h => by cases h
  | .str _ :: _, _, _, _, h => by cases h
  | .ref _ :: _, _, _, _, h => by cases h
  | .ty _ :: _, _, _, _, h => by cases h
  | .tup _ :: _, _, _, _, h => by cases h
  | .lst _ :: _, _, _, _, h => by cases h
  | .obj _ _ _ :: _, _, _, _, h => by cases h
  | .dK _ _ :: _, _, _, _, h => by cases h
  | .dT _ _ :: _, _, _, _, h => by cases h
@[simp] theorem boolsOf_map (bs : List Bool) : boolsOf (bs.map D.bl) = some bs := by
  induction bs with
  | nil => rfl
  | cons b bs ih => simp [boolsOf, ih]
@[simp] theorem intsOf_map (bs : List Int) : intsOf (bs.map D.int) = some bs := by
  induction bs with
  | nil => rfl
  | cons b bs ih => simp [intsOf, ih]
def allP : DN := fun ds S Q => match ds with
  | [d] => match (lstOf S d).bind boolsOf with
    | some bs => Q (.bl (bs.all id)) S
    | none => False
  | _ => False
def anyP : DN := fun ds S Q => match ds with
  | [d] => match (lstOf S d).bind boolsOf with
    | some bs => Q (.bl (bs.any id)) S
    | none => False
  | _ => False
def sumP : DN := fun ds S Q => match ds with
  | [d] => match (lstOf S d).bind intsOf with
    | some ns => Q (.int ns.sum) S
    | none => False
  | _ => False
def maxP : DN := fun ds S Q => match ds with
  | [d] => match (lstOf S d).bind intsOf with
    | some ns => ns ≠ [] ∧ ∀ m, m ∈ ns → (∀ y, y ∈ ns → y ≤ m) → Q (.int m) S
    | none => False
  | _ => False
def minP : DN := fun ds S Q => match ds with
  | [d] => match (lstOf S d).bind intsOf with
    | some ns => ns ≠ [] ∧ ∀ m, m ∈ ns → (∀ y, y ∈ ns → m ≤ y) → Q (.int m) S
    | none => False
  | _ => False
theorem lb_read {K : Kz} {S : Sto} {H : Hp} {d : D} {v : V} {bs : List Bool} (R : Rel K S H) (r : Rep K S H d v) (h : (lstOf S d).bind boolsOf = some bs) : ∃ a, v = .ref a ∧ SqL K.K H a (bs.map V.bl) := by
  cases e : lstOf S d with
  | none => rw [e] at h; cases h
  | some ds =>
    rw [e] at h
    obtain ⟨a, vs, rfl, q, z, rr⟩ := lst_read R r e
    exact ⟨a, rfl, by rw [← bools_read rr h]; exact q⟩
theorem li_read {K : Kz} {S : Sto} {H : Hp} {d : D} {v : V} {bs : List Int} (R : Rel K S H) (r : Rep K S H d v) (h : (lstOf S d).bind intsOf = some bs) : ∃ a, v = .ref a ∧ SqL K.K H a (bs.map V.int) := by
  cases e : lstOf S d with
  | none => rw [e] at h; cases h
  | some ds =>
    rw [e] at h
    obtain ⟨a, vs, rfl, q, z, rr⟩ := lst_read R r e
    exact ⟨a, rfl, by rw [← ints_read rr h]; exact q⟩
theorem cad_all {K : Kz} : CallD K (rAll K.K) allP := by
  intro S H ds vs Qd Q R r q f
  unfold allP at q
  split at q
  · obtain ⟨v, rfl, rv⟩ := r.single
    split at q
    · rename_i hs
      obtain ⟨a, rfl, l⟩ := lb_read R rv hs
      exact ⟨a, _, rfl, l, f.here R (.bl _) q⟩
    · exact q.elim
  · exact q.elim
theorem cad_any {K : Kz} : CallD K (rAny K.K) anyP := by
  intro S H ds vs Qd Q R r q f
  unfold anyP at q
  split at q
  · obtain ⟨v, rfl, rv⟩ := r.single
    split at q
    · rename_i hs
      obtain ⟨a, rfl, l⟩ := lb_read R rv hs
      exact ⟨a, _, rfl, l, f.here R (.bl _) q⟩
    · exact q.elim
  · exact q.elim
theorem cad_sum {K : Kz} : CallD K (rSum K.K) sumP := by
  intro S H ds vs Qd Q R r q f
  unfold sumP at q
  split at q
  · obtain ⟨v, rfl, rv⟩ := r.single
    split at q
    · rename_i hs
      obtain ⟨a, rfl, l⟩ := li_read R rv hs
      exact ⟨a, _, rfl, l, f.here R (.int _) q⟩
    · exact q.elim
  · exact q.elim
theorem cad_max {K : Kz} : CallD K (rMax K.K) maxP := by
  intro S H ds vs Qd Q R r q f
  unfold maxP at q
  split at q
  · obtain ⟨v, rfl, rv⟩ := r.single
    split at q
    · rename_i ns hs
      obtain ⟨a, rfl, l⟩ := li_read R rv hs
      exact ⟨a, _, rfl, l, List.length_pos_iff.mpr q.1, fun m h1 h2 => f.here R (.int _) (q.2 m h1 h2)⟩
    · exact q.elim
  · exact q.elim
theorem cad_min {K : Kz} : CallD K (rMin K.K) minP := by
  intro S H ds vs Qd Q R r q f
  unfold minP at q
  split at q
  · obtain ⟨v, rfl, rv⟩ := r.single
    split at q
    · rename_i ns hs
      obtain ⟨a, rfl, l⟩ := li_read R rv hs
      exact ⟨a, _, rfl, l, List.length_pos_iff.mpr q.1, fun m h1 h2 => f.here R (.int _) (q.2 m h1 h2)⟩
    · exact q.elim
  · exact q.elim
end
end DL
namespace DL
open PySem PySem.Spec PyProof.Rows L2
/-! ### isinstance -/
def tyName (S : Sto) : D → Option String
  | .non => some "NoneType"
  | .bl _ => some "bool"
  | .int _ => some "int"
  | .str _ => some "str"
  | .tup _ => some "tuple"
  | .lst _ => some "list"
  | .dK _ _ => some "dict"
  | .dT _ _ => some "dict"
  | .ref a => match S a with
    | some (.lst _) => some "list"
    | some (.dK _ _) => some "dict"
    | some (.dT _ _) => some "dict"
    | _ => none
  | _ => none
/-- is the type a one of the type b -/
def subTy (a b : String) : Bool := a == b || (a == "bool" && b == "int")
def knownTy (b : String) : Bool := b == "int" || b == "bool" || b == "str" || b == "tuple" || b == "list" || b == "dict"
def isiP : DN := fun ds S Q => match ds with
  | [d, .ty T] => knownTy T = true ∧ match tyName S d with
    | some a => Q (.bl (subTy a T)) S
    | none => False
  | _ => False
theorem kit_tab : (["NoneType", "bool", "int", "str", "tuple", "list", "dict"].all fun a => ["int", "bool", "str", "tuple", "list", "dict"].all fun b => kitB a b == some (subTy a b)) = true := by decide +kernel
theorem kit_sub {K : PySem.W.Frag} {a b : String} (ha : a ∈ ["NoneType", "bool", "int", "str", "tuple", "list", "dict"]) (hb : knownTy b = true) : PySem.W.kitOne K (.type a) (.type b) = some (subTy a b) := by
  have h := List.all_eq_true.mp kit_tab a ha
  have hb' : b ∈ ["int", "bool", "str", "tuple", "list", "dict"] := by
    unfold knownTy at hb
    simp only [Bool.or_eq_true, beq_iff_eq] at hb
    rcases hb with ((((h | h) | h) | h) | h) | h <;> subst h <;> decide
  have h2 := List.all_eq_true.mp h b hb'
  exact kit_ty (beq_iff_eq.mp h2)
theorem ty_read {K : Kz} {S : Sto} {H : Hp} {d : D} {v : V} {a : String} (R : Rel K S H) (r : Rep K S H d v) (h : tyName S d = some a) : TyX K.K H v (.type a) ∧ a ∈ ["NoneType", "bool", "int", "str", "tuple", "list", "dict"] := by
  cases d with
  | non => cases r; cases h; exact ⟨.base .non, by decide⟩
  | bl b => cases r; cases h; exact ⟨.base (.bl b), by decide⟩
  | int b => cases r; cases h; exact ⟨.base (.int b), by decide⟩
  | str b => cases r; cases h; exact ⟨.base (.str b), by decide⟩
  | tup xs =>
    cases h
    refine ⟨?_, by decide⟩
    cases r with
    | tup q _ _ =>
      rcases q with q | ⟨o, its, n, h1, h2, _⟩
      · exact .base (.tup q)
      · exact .kTuple h1 h2
  | lst xs =>
    cases h
    refine ⟨?_, by decide⟩
    cases r with
    | lst q _ _ =>
      rcases q with ⟨_, _, q | ⟨o, q⟩⟩ | ⟨o, its, n, h1, h2, _⟩
      · exact .base (.lst q)
      · exact .base (.frz q)
      · exact .kList h1 h2
  | dK ks ds => cases h; cases r with | dK n q _ _ => exact ⟨.base (.dK q), by decide⟩
  | dT ks ds => cases h; cases r with | dT n q _ _ => exact ⟨.base (.dT q), by decide⟩
  | ref b =>
    cases r
    unfold tyName at h
    cases e : S b with
    | none => simp only [e] at h; cases h
    | some o =>
      have q := R.get b o e
      cases o with
      | lst ds => simp only [e] at h; cases h; obtain ⟨vs, q, _⟩ := q; exact ⟨.base (.lst q), by decide⟩
      | dK ks ds => simp only [e] at h; cases h; obtain ⟨vs, q, _⟩ := q; exact ⟨.base (.dK q), by decide⟩
      | dT ks ds => simp only [e] at h; cases h; obtain ⟨vs, q, _⟩ := q; exact ⟨.base (.dT q), by decide⟩
      | obj C ns ds => simp only [e] at h; cases h
      | ts Φ cs => simp only [e] at h; cases h
  | _ => cases h
theorem cad_isi {K : Kz} : CallD K (rIsi K.K) isiP := by
  intro S H ds vs Qd Q R r q f
  unfold isiP at q
  split at q
  · rename_i d T
    obtain ⟨v, w, rfl, rv, rw'⟩ := r.two
    cases rw'
    obtain ⟨kT, q⟩ := q
    split at q
    · rename_i a ha
      obtain ⟨t, m⟩ := ty_read R rv ha
      exact ⟨v, .ty T, .type a, .type T, subTy a T, rfl, .ty T, t, kit_sub m kT, f.here R (.bl _) q⟩
    · exact q.elim
  · exact q.elim
/-! ### repr -/
/-- repr may be asked of it -/
structure Shows (d : D) : Prop where
  plain : plain d = true
  show_ : (py d).showable = true
  deep : (py d).depth ≤ 64
  len : (py d).shown.length ≤ sizeLine
def shown (d : D) : Str := (py d).shown
def reprP : DN := fun ds S Q => match ds with
  | [d] => Shows d ∧ Q (.str (shown d)) S
  | _ => False
mutual
theorem noDict_py : ∀ d : D, (py d).hasDict = false
  | .non => by simp [py, PyData.hasDict]
  | .bl _ => by simp [py, PyData.hasDict]
  | .int _ => by simp [py, PyData.hasDict]
  | .str _ => by simp [py, PyData.hasDict]
  | .tup xs => by simp [py, PyData.hasDict, noDict_pyAll xs]
  | .lst xs => by simp [py, PyData.hasDict, noDict_pyAll xs]
  | .ref _ => by simp [py, PyData.hasDict]
  | .ty _ => by simp [py, PyData.hasDict]
  | .obj _ _ _ => by simp [py, PyData.hasDict]
  | .dK _ _ => by simp [py, PyData.hasDict]
  | .dT _ _ => by simp [py, PyData.hasDict]
theorem noDict_pyAll : ∀ ds : List D, PyData.hasDictAll (pyAll ds) = false
  | [] => by simp [pyAll, PyData.hasDictAll]
  | d :: ds => by simp [pyAll, PyData.hasDictAll, noDict_py d, noDict_pyAll ds]
end
section
variable {X : Cx} {B : Bs}
def rRepr (K : PySem.W.Frag) : List V → Hp → VK → Prop := fun xs H Q => ∃ v d, xs = [v] ∧ Dp K H v d ∧ d.showable = true ∧ d.hasDict = false ∧ d.depth ≤ 64 ∧ d.shown.length ≤ sizeLine ∧ Q (.str d.shown) H
theorem call_reprW {k : Nat} (m : AmbW X.A k) : CallR X (.builtin "repr") (rRepr X.K) := by
  intro pins s σ H xs us Q I r h
  obtain ⟨v, d, rfl, dp, sh, nd, dd, len, q⟩ := h
  obtain ⟨u, rfl, rv⟩ := vals1 r
  have hu : X.A.units + (d.depth + 1) < cLine := by have := m.un; omega
  cases d with
  | none => cases dp; cases rv; exact PySem.P.repr_of_none ⟨.str _, H, I.tok _, ⟨_, rfl⟩, by simpa [PyData.shown] using q⟩
  | bool b => cases dp; cases rv; exact PySem.P.repr_of_bool ⟨.str _, H, I.tok _, ⟨_, rfl⟩, by simpa [PyData.shown] using q⟩
  | int i =>
    cases dp
    obtain ⟨t, rfl⟩ := rv
    simp only [PyData.showable, decide_eq_true_eq] at sh
    exact PySem.P.repr_of_int sh ⟨.str _, H, I.tok _, ⟨_, rfl⟩, by simpa [PyData.shown] using q⟩
  | str x =>
    cases dp
    obtain ⟨t, rfl⟩ := rv
    simp only [PyData.shown] at len q
    exact PySem.P.repr_of_str ⟨.str _, H, I.tok _, ⟨_, rfl⟩, q⟩ len
  | list ds =>
    obtain ⟨as, rd⟩ := Dp.reads I _ v u dp rv
    obtain ⟨a, rfl⟩ : ∃ a, u = .ref a := by cases dp; exact ⟨_, rv⟩
    exact repr_of_reads' rd sh (PyData.noDict_hsm nd) m.guards hu (fun _ _ z => z) (fun h' u' tk k => ⟨.str _, H, I.kept k, ⟨_, rfl⟩, q⟩) len
  | tuple ds =>
    obtain ⟨as, rd⟩ := Dp.reads I _ v u dp rv
    obtain ⟨a, rfl⟩ : ∃ a, u = .ref a := by cases dp; exact ⟨_, rv⟩
    exact repr_of_reads' rd sh (PyData.noDict_hsm nd) m.guards hu (fun _ _ z => z) (fun h' u' tk k => ⟨.str _, H, I.kept k, ⟨_, rfl⟩, q⟩) len
  | dict kvs => cases dp
theorem call_repr {k : Nat} (m : Amb X.A k) : CallR X (.builtin "repr") (rRepr X.K) := call_reprW m.w
theorem cad_repr {K : Kz} : CallD K (rRepr K.K) reprP := by
  intro S H ds vs Qd Q R r q f
  unfold reprP at q
  split at q
  · rename_i d
    obtain ⟨v, rfl, rv⟩ := r.single
    obtain ⟨sh, q⟩ := q
    exact ⟨v, py d, rfl, Rep.dp _ _ sh.plain rv, sh.show_, noDict_py d, sh.deep, sh.len, f.here R (.str _) q⟩
  · exact q.elim
end
/-! ### how long a text repr gives: a bound by the parts -/
mutual
/-- a weight: the shown text is no longer -/
def wt : D → Nat
  | .non => 4
  | .bl _ => 5
  | .int i => i.natAbs.log2 + 3
  | .str x => 10 * x.length + 2
  | .tup xs => wtAll xs + 3
  | .lst xs => wtAll xs + 2
  | _ => 4
def wtAll : List D → Nat
  | [] => 0
  | d :: ds => wt d + 2 + wtAll ds
end
end DL
namespace DL
open PySem PySem.Spec PyProof.Rows L2
mutual
/-- ints of less than 1920 bits, plain texts, no objects -/
def lay : D → Bool
  | .non => true
  | .bl _ => true
  | .int i => decide (i.natAbs.log2 < 1920)
  | .str x => PyData.strOk x
  | .tup xs => layAll xs
  | .lst xs => layAll xs
  | _ => false
def layAll : List D → Bool
  | [] => true
  | d :: ds => lay d && layAll ds
end
mutual
def deepD : D → Nat
  | .tup xs => deepAll xs + 1
  | .lst xs => deepAll xs + 1
  | _ => 0
def deepAll : List D → Nat
  | [] => 0
  | d :: ds => max (deepD d) (deepAll ds)
end
mutual
theorem deep_py : ∀ d : D, (py d).depth = deepD d
  | .tup xs => by simp [py, PyData.depth, deepD, deep_pyAll xs]
  | .lst xs => by simp [py, PyData.depth, deepD, deep_pyAll xs]
  | .non => rfl
  | .bl _ => rfl
  | .int _ => rfl
  | .str _ => rfl
  | .ref _ => rfl
  | .ty _ => rfl
  | .obj _ _ _ => rfl
  | .dK _ _ => rfl
  | .dT _ _ => rfl
theorem deep_pyAll : ∀ ds : List D, PyData.depthAll (pyAll ds) = deepAll ds
  | [] => rfl
  | d :: ds => by simp [pyAll, PyData.depthAll, deepAll, deep_py d, deep_pyAll ds]
end
mutual
theorem lay_py : ∀ d : D, lay d = true → plain d = true ∧ (py d).showable = true ∧ (py d).canLay0 = true
  | .non, _ => by simp [plain, py, PyData.showable, PyData.canLay0]
  | .bl _, _ => by simp [plain, py, PyData.showable, PyData.canLay0]
  | .int _, h => by simpa [plain, py, PyData.showable, PyData.canLay0, lay] using h
  | .str _, h => by simpa [plain, py, PyData.showable, PyData.canLay0, lay] using h
  | .tup xs, h => by
    have := layAll_py xs (by simpa [lay] using h)
    simpa [plain, py, PyData.showable, PyData.canLay0] using this
  | .lst xs, h => by
    have := layAll_py xs (by simpa [lay] using h)
    simpa [plain, py, PyData.showable, PyData.canLay0] using this
  | .ref _, h => by cases h
  | .ty _, h => by cases h
  | .obj _ _ _, h => by cases h
  | .dK _ _, h => by cases h
  | .dT _ _, h => by cases h
theorem layAll_py : ∀ ds : List D, layAll ds = true → plainAll ds = true ∧ PyData.showableAll (pyAll ds) = true ∧ PyData.canLayAll0 (pyAll ds) = true
  | [], _ => by simp [plainAll, pyAll, PyData.showableAll, PyData.canLayAll0]
  | d :: ds, h => by
    rw [layAll, Bool.and_eq_true] at h
    have h1 := lay_py d h.1
    have h2 := layAll_py ds h.2
    simp [plainAll, pyAll, PyData.showableAll, PyData.canLayAll0, h1, h2]
end
theorem okE_lay {d : D} (h : lay d = true) (hd : deepD d ≤ 64) : okE d = true := by
  obtain ⟨h1, _, h3⟩ := lay_py d h
  unfold okE SeqAt.shaped
  rw [h1, h3, deep_py]
  simpa using hd
theorem textFrom_le : ∀ (ts : List Str) (k : Nat) (acc : Str), (textFrom k acc ts).length ≤ acc.length + (ts.map fun t => t.length + 2).sum
  | [], k, acc => by show acc.length ≤ _; omega
  | t :: r, k, acc => by
    have ih := textFrom_le r (k + 1) (acc ++ (if k > 0 then ", " else "" : String) ++ t)
    have e : (acc ++ (if k > 0 then ", " else "" : String) ++ t : Str).length ≤ acc.length + 2 + t.length := by
      rw [PySem.Str.length_append, PySem.Str.length_append]
      split
      · show acc.length + 2 + t.length ≤ _; omega
      · show acc.length + 0 + t.length ≤ _; omega
    show (textFrom (k + 1) (acc ++ (if k > 0 then ", " else "" : String) ++ t) r).length ≤ _
    rw [List.map_cons, List.sum_cons]
    omega
theorem listText_le (ts : List Str) : (listText ts).length ≤ (ts.map fun t => t.length + 2).sum + 2 := by
  have h := textFrom_le ts 0 "["
  unfold listText
  rw [Str.length_append]
  have h1 : (("[" : Str)).length = 1 := rfl
  have h2 : (("]" : Str)).length = 1 := rfl
  omega
theorem tupleText_le (ts : List Str) : (tupleText ts).length ≤ (ts.map fun t => t.length + 2).sum + 3 := by
  unfold tupleText
  rw [Str.length_append, Str.length_append]
  have h1 : (("(" : Str)).length = 1 := rfl
  have h2 : ((if ts.length == 1 then ",)" else ")" : String) : Str).length ≤ 2 := by split <;> decide
  cases ts with
  | nil =>
    have h3 : (Str.join ", " []).length = 0 := rfl
    omega
  | cons t r =>
    have h3 := join_length_add (t :: r) (by simp)
    unfold piled at h3
    omega
mutual
theorem shown_le : ∀ d : D, lay d = true → (py d).shown.length ≤ wt d
  | .non, _ => by decide
  | .bl b, _ => by cases b <;> decide
  | .int i, h => by
    have h' : i.natAbs.log2 < i.natAbs.log2 + 1 := Nat.lt_succ_self _
    have := int_text_length_le (a := i) (k := i.natAbs.log2 + 1) (by omega) h'
    show (PyData.shown (.int i)).length ≤ i.natAbs.log2 + 3
    simp only [PyData.shown]
    show (Str.ofString (toString i)).length ≤ _
    rw [PySem.ofString_length]
    omega
  | .str x, h => by
    show (PyData.shown (.str x)).length ≤ 10 * x.length + 2
    simp only [PyData.shown]
    refine StrLaws.reprText_len x fun c hc => ?_
    have h : PyData.strOk x = true := h
    unfold PyData.strOk at h
    rw [← Array.all_toList, List.all_eq_true] at h
    have := h c hc
    simp only [decide_eq_true_eq] at this
    omega
  | .tup xs, h => by
    show (PyData.shown (.tuple (pyAll xs))).length ≤ wtAll xs + 3
    simp only [PyData.shown]
    have h1 := tupleText_le (PyData.shownAll (pyAll xs))
    have h2 := shownAll_le xs (by simpa [lay] using h)
    omega
  | .lst xs, h => by
    show (PyData.shown (.list (pyAll xs))).length ≤ wtAll xs + 2
    simp only [PyData.shown]
    have h1 := listText_le (PyData.shownAll (pyAll xs))
    have h2 := shownAll_le xs (by simpa [lay] using h)
    omega
  | .ref _, h => by cases h
  | .ty _, h => by cases h
  | .obj _ _ _, h => by cases h
  | .dK _ _, h => by cases h
  | .dT _ _, h => by cases h
theorem shownAll_le : ∀ ds : List D, layAll ds = true → ((PyData.shownAll (pyAll ds)).map fun t => t.length + 2).sum ≤ wtAll ds
  | [], _ => by simp [pyAll, PyData.shownAll, wtAll]
  | d :: ds, h => by
    rw [layAll, Bool.and_eq_true] at h
    have h1 := shown_le d h.1
    have h2 := shownAll_le ds h.2
    simp only [pyAll, PyData.shownAll, wtAll, List.map_cons, List.sum_cons]
    omega
end
theorem shows_of {d : D} (h : lay d = true) (hd : deepD d ≤ 64) (hw : wt d ≤ sizeLine) : Shows d := by
  obtain ⟨h1, h2, _⟩ := lay_py d h
  exact ⟨h1, h2, by rw [deep_py]; exact hd, Nat.le_trans (shown_le d h) hw⟩
end DL
namespace DL
open PySem PySem.Spec PyProof.Rows L2
theorem bt_len : bootBuiltins "len" = some (.builtin "len") := by decide +kernel
theorem bt_abs : bootBuiltins "abs" = some (.builtin "abs") := by decide +kernel
theorem bt_isinstance : bootBuiltins "isinstance" = some (.builtin "isinstance") := by decide +kernel
theorem bt_all : bootBuiltins "all" = some (.builtin "all") := by decide +kernel
theorem bt_any : bootBuiltins "any" = some (.builtin "any") := by decide +kernel
theorem bt_sum : bootBuiltins "sum" = some (.builtin "sum") := by decide +kernel
theorem bt_max : bootBuiltins "max" = some (.builtin "max") := by decide +kernel
theorem bt_min : bootBuiltins "min" = some (.builtin "min") := by decide +kernel
theorem bt_repr : bootBuiltins "repr" = some (.builtin "repr") := by decide +kernel
theorem bt_int : bootBuiltins "int" = some (.type "int") := by decide +kernel
theorem bt_bool : bootBuiltins "bool" = some (.type "bool") := by decide +kernel
theorem bt_str : bootBuiltins "str" = some (.type "str") := by decide +kernel
theorem bt_list : bootBuiltins "list" = some (.type "list") := by decide +kernel
theorem bt_tuple : bootBuiltins "tuple" = some (.type "tuple") := by decide +kernel
theorem bt_dict : bootBuiltins "dict" = some (.type "dict") := by decide +kernel
section
variable {X : Cx} {B : Bs} {x : Str} {pos : Pos}
theorem de_globI {i : Int} (hg : Gl X x) (h : ∃ t, X.mg x = some (.int i t)) (hd : (x == ("__debug__" : Str)) = false := by decide) : DE X B (.Name x pos) (dC (.int i)) :=
  let ⟨_, e⟩ := h
  de_glob (v := .int i) hg e ⟨_, rfl⟩ (fun _ _ => .int i) hd
theorem de_globS {i : Str} (hg : Gl X x) (h : ∃ t, X.mg x = some (.str i t)) (hd : (x == ("__debug__" : Str)) = false := by decide) : DE X B (.Name x pos) (dC (.str i)) :=
  let ⟨_, e⟩ := h
  de_glob (v := .str i) hg e ⟨_, rfl⟩ (fun _ _ => .str i) hd
end
/-! ### promises by the number of arguments -/
def sp1 (p : D → Sto → DQ → DX → Prop) : DSp := fun ds S Q E => match ds with
  | [a] => p a S Q E
  | _ => False
def sp2 (p : D → D → Sto → DQ → DX → Prop) : DSp := fun ds S Q E => match ds with
  | [a, b] => p a b S Q E
  | _ => False
def sp3 (p : D → D → D → Sto → DQ → DX → Prop) : DSp := fun ds S Q E => match ds with
  | [a, b, c] => p a b c S Q E
  | _ => False
def sp4 (p : D → D → D → D → Sto → DQ → DX → Prop) : DSp := fun ds S Q E => match ds with
  | [a, b, c, d] => p a b c d S Q E
  | _ => False
theorem sp1_len {p} : ∀ ds S Q E, sp1 p ds S Q E → ds.length = 1 := fun ds S Q E h => by
  unfold sp1 at h; split at h
  · rfl
  · exact h.elim
theorem sp2_len {p} : ∀ ds S Q E, sp2 p ds S Q E → ds.length = 2 := fun ds S Q E h => by
  unfold sp2 at h; split at h
  · rfl
  · exact h.elim
theorem sp3_len {p} : ∀ ds S Q E, sp3 p ds S Q E → ds.length = 3 := fun ds S Q E h => by
  unfold sp3 at h; split at h
  · rfl
  · exact h.elim
theorem sp4_len {p} : ∀ ds S Q E, sp4 p ds S Q E → ds.length = 4 := fun ds S Q E h => by
  unfold sp4 at h; split at h
  · rfl
  · exact h.elim
theorem sp1_get {p} {ds S Q E} (h : sp1 p ds S Q E) : ∃ a, ds = [a] ∧ p a S Q E := by
  unfold sp1 at h; split at h
  · exact ⟨_, rfl, h⟩
  · exact h.elim
theorem sp2_get {p} {ds S Q E} (h : sp2 p ds S Q E) : ∃ a b, ds = [a, b] ∧ p a b S Q E := by
  unfold sp2 at h; split at h
  · exact ⟨_, _, rfl, h⟩
  · exact h.elim
theorem sp3_get {p} {ds S Q E} (h : sp3 p ds S Q E) : ∃ a b c, ds = [a, b, c] ∧ p a b c S Q E := by
  unfold sp3 at h; split at h
  · exact ⟨_, _, _, rfl, h⟩
  · exact h.elim
theorem sp4_get {p} {ds S Q E} (h : sp4 p ds S Q E) : ∃ a b c d, ds = [a, b, c, d] ∧ p a b c d S Q E := by
  unfold sp4 at h; split at h
  · exact ⟨_, _, _, _, rfl, h⟩
  · exact h.elim
/-- nothing lower -/
theorem lows_same {Q : DQ} {d : D} {S : Sto} (q : Q d S) : lows Q d S := ⟨d, S, Sub.refl, .same d, q⟩
theorem lows_sub {Q : DQ} {d : D} {S S' : Sto} (h : Sub S' S) (q : Q d S') : lows Q d S := ⟨d, S', h, .same d, q⟩
/-! ### loops and comprehensions by a word -/
theorem forR_inv {g : MG} {tb : MS} {ok : Sto → Prop} {D : DEnds} (I : Nat → DEnv → Sto → Prop) {all : List DL.D}
    (hs : ∀ k d env S (Z : DEnv → Sto → Prop), all[k]? = some d → I k env S → (∀ env' S', I (k + 1) env' S' → Z env' S') → ok S ∧ g d env S fun env' S' => tb { D with nx := Z, ct := Z, bk := D.nx } env' S')
    (hd : ∀ env S, I all.length env S → ok S ∧ D.nx env S) : ∀ (ds : List DL.D) (k : Nat) env S, all.drop k = ds → k ≤ all.length → I k env S → forR g tb ok D ds env S := by
  intro ds
  induction ds with
  | nil =>
    intro k env S e hk i
    have : all.length ≤ k := by
      have := congrArg List.length e
      rw [List.length_drop, List.length_nil] at this
      omega
    obtain rfl : k = all.length := by omega
    exact hd env S i
  | cons d ds ih =>
    intro k env S e hk i
    have hd' : all[k]? = some d := by
      have : (all.drop k)[0]? = some d := by rw [e]; rfl
      rw [List.getElem?_drop, Nat.add_zero] at this; exact this
    have hk' : k < all.length := (List.getElem?_eq_some_iff.mp hd').1
    have e' : all.drop (k + 1) = ds := by
      rw [← List.drop_drop, e]; rfl
    exact hs k d env S _ hd' i fun env' S' i' => ih (k + 1) env' S' e' hk' i'
theorem for_inv {g : MG} {tb : MS} {ok : Sto → Prop} {D : DEnds} (I : Nat → DEnv → Sto → Prop) {all : List DL.D} {env : DEnv} {S : Sto} (h0 : I 0 env S)
    (hs : ∀ k d env S (Z : DEnv → Sto → Prop), all[k]? = some d → I k env S → (∀ env' S', I (k + 1) env' S' → Z env' S') → ok S ∧ g d env S fun env' S' => tb { D with nx := Z, ct := Z, bk := D.nx } env' S')
    (hd : ∀ env S, I all.length env S → ok S ∧ D.nx env S) : forR g tb ok D all env S := forR_inv I hs hd all 0 env S rfl (Nat.zero_le _) h0
theorem lcR_inv {g : MG} {tt : MT} {te : ME} {ok : Sto → Prop} {env0 : DEnv} {Q : List D → Sto → Prop} (I : Nat → List D → Sto → Prop) {all : List D}
    (hs : ∀ k d acc S (Z : List D → Sto → Prop), all[k]? = some d → I k acc S → (∀ acc' S', I (k + 1) acc' S' → Z acc' S') → ok S ∧ g d env0 S fun env' S' => tt env' S' fun b S2 => if b = true then te env' S2 fun y S3 => Z (acc ++ [y]) S3 else Z acc S2)
    (hd : ∀ acc S, I all.length acc S → ok S ∧ Q acc S) : ∀ (ds : List D) (k : Nat) acc S, all.drop k = ds → k ≤ all.length → I k acc S → lcR g tt te ok env0 Q ds acc S := by
  intro ds
  induction ds with
  | nil =>
    intro k acc S e hk i
    have : all.length ≤ k := by
      have := congrArg List.length e
      rw [List.length_drop, List.length_nil] at this
      omega
    obtain rfl : k = all.length := by omega
    exact hd acc S i
  | cons d ds ih =>
    intro k acc S e hk i
    have hd' : all[k]? = some d := by
      have : (all.drop k)[0]? = some d := by rw [e]; rfl
      rw [List.getElem?_drop, Nat.add_zero] at this; exact this
    have hk' : k < all.length := (List.getElem?_eq_some_iff.mp hd').1
    have e' : all.drop (k + 1) = ds := by
      rw [← List.drop_drop, e]; rfl
    obtain ⟨o, q⟩ := hs k d acc S (fun acc' S' => lcR g tt te ok env0 Q ds acc' S') hd' i fun acc' S' i' => ih (k + 1) acc' S' e' hk' i'
    exact ⟨o, q⟩
theorem lc_inv {g : MG} {tt : MT} {te : ME} {ok : Sto → Prop} {env0 : DEnv} {Q : List D → Sto → Prop} (I : Nat → List D → Sto → Prop) {all : List D} {S : Sto} (h0 : I 0 [] S)
    (hs : ∀ k d acc S (Z : List D → Sto → Prop), all[k]? = some d → I k acc S → (∀ acc' S', I (k + 1) acc' S' → Z acc' S') → ok S ∧ g d env0 S fun env' S' => tt env' S' fun b S2 => if b = true then te env' S2 fun y S3 => Z (acc ++ [y]) S3 else Z acc S2)
    (hd : ∀ acc S, I all.length acc S → ok S ∧ Q acc S) : lcR g tt te ok env0 Q all [] S := lcR_inv I hs hd all 0 [] S rfl (Nat.zero_le _) h0
/-- [f(x) for x in ds]: nothing changes -/
theorem lc_map {i : Nat} {te : ME} {ok : Sto → Prop} {env0 : DEnv} {Q : List D → Sto → Prop} (f : D → D) {S : Sto} (ho : ok S) : ∀ (ds acc : List D), (∀ d ∈ ds, ∀ Q : DQ, Q (f d) S → te (env0.set i (some d)) S Q) → Q (acc ++ ds.map f) S → lcR (dgName i) dYes te ok env0 Q ds acc S
  | [], acc, _, q => ⟨ho, by rw [List.map_nil, List.append_nil] at q; exact q⟩
  | d :: ds, acc, h, q => ⟨ho, h d List.mem_cons_self _ (by
      refine lc_map f ho ds _ (fun x hx => h x (List.mem_cons_of_mem _ hx)) ?_
      rw [List.append_assoc]
      exact q)⟩
/-- [f(x) for x in ds if p(x)] -/
theorem lc_filter {i : Nat} {tt : MT} {te : ME} {ok : Sto → Prop} {env0 : DEnv} {Q : List D → Sto → Prop} (p : D → Bool) (f : D → D) {S : Sto} (ho : ok S) : ∀ (ds acc : List D), (∀ d ∈ ds, ∀ Q : Bool → Sto → Prop, Q (p d) S → tt (env0.set i (some d)) S Q) →
    (∀ d ∈ ds, p d = true → ∀ Q : DQ, Q (f d) S → te (env0.set i (some d)) S Q) → Q (acc ++ (ds.filter p).map f) S → lcR (dgName i) tt te ok env0 Q ds acc S
  | [], acc, _, _, q => ⟨ho, by rw [List.filter_nil, List.map_nil, List.append_nil] at q; exact q⟩
  | d :: ds, acc, h1, h2, q => ⟨ho, h1 d List.mem_cons_self _ (by
      cases hp : p d with
      | true =>
        refine iteT (h2 d List.mem_cons_self hp _ (lc_filter p f ho ds _ (fun x hx => h1 x (List.mem_cons_of_mem _ hx)) (fun x hx => h2 x (List.mem_cons_of_mem _ hx)) ?_))
        rw [List.filter_cons_of_pos hp] at q
        rw [List.append_assoc]
        exact q
      | false =>
        refine iteF (lc_filter p f ho ds _ (fun x hx => h1 x (List.mem_cons_of_mem _ hx)) (fun x hx => h2 x (List.mem_cons_of_mem _ hx)) ?_)
        rw [List.filter_cons_of_neg (by rw [hp]; exact Bool.false_ne_true)] at q
        exact q)⟩
end DL
namespace DL
open PySem PySem.Spec PyProof.Rows L2
theorem isi_of {d : D} {S : Sto} {T y : String} {Q : DQ} (h : tyName S d = some y) (k : knownTy T = true) (q : Q (.bl (subTy y T)) S) : isiP [d, .ty T] S Q := by
  unfold isiP
  simp only [h]
  exact ⟨k, q⟩
end DL
namespace DL
open PySem PySem.Spec PyProof.Rows L2
theorem atI_0 {α : Type} {x : α} {xs : List α} : atI (x :: xs) 0 = some x := by
  have h : ixN (x :: xs).length 0 = some 0 := by unfold ixN; rw [if_pos (Int.le_refl 0), if_pos (by rw [List.length_cons]; omega)]; rfl
  unfold atI; rw [h]; rfl
theorem atI_nat' {α : Type} {xs : List α} {i : Int} (h0 : 0 ≤ i) : atI xs i = xs[i.toNat]? := by
  unfold atI ixN
  rw [if_pos h0]
  by_cases h : i < (xs.length : Int)
  · rw [if_pos h]; rfl
  · rw [if_neg h]
    exact (List.getElem?_eq_none (by omega)).symm
theorem atI_1 {α : Type} {x y : α} {xs : List α} : atI (x :: y :: xs) 1 = some y := by rw [atI_nat' (by decide)]; rfl
theorem atI_2 {α : Type} {x y z : α} {xs : List α} : atI (x :: y :: z :: xs) 2 = some z := by rw [atI_nat' (by decide)]; rfl
theorem atI_3 {α : Type} {x y z u : α} {xs : List α} : atI (x :: y :: z :: u :: xs) 3 = some u := by rw [atI_nat' (by decide)]; rfl
theorem atI_4 {α : Type} {x y z u v : α} {xs : List α} : atI (x :: y :: z :: u :: v :: xs) 4 = some v := by rw [atI_nat' (by decide)]; rfl
theorem atI_in {α : Type} {xs : List α} {i : Int} (h0 : 0 ≤ i) (h1 : i < xs.length) : ∃ d, d ∈ xs ∧ atI xs i = some d := by
  rw [atI_nat' h0]
  have h : i.toNat < xs.length := by omega
  exact ⟨xs[i.toNat], List.getElem_mem h, List.getElem?_eq_getElem h⟩
theorem ixN_nat {n : Nat} {i : Int} (h0 : 0 ≤ i) (h1 : i < n) : ixN n i = some i.toNat := by unfold ixN; rw [if_pos h0, if_pos h1]
theorem ixN_0 {n : Nat} : ixN (n + 1) 0 = some 0 := ixN_nat (Int.le_refl 0) (by omega)
theorem ixN_1 {n : Nat} : ixN (n + 2) 1 = some 1 := ixN_nat (by decide) (by omega)
theorem ixN_2 {n : Nat} : ixN (n + 3) 2 = some 2 := ixN_nat (by decide) (by omega)
theorem ixN_4 {n : Nat} : ixN (n + 5) 4 = some 4 := ixN_nat (by decide) (by omega)
theorem szL {n : Nat} (h : n ≤ 16777216) : n ≤ sizeLine := by rw [sizeLine_eq]; exact h
theorem sizeLine_n : sizeLine = 16777216 := sizeLine_eq
/-- the draws' deck -/
def DeckOk (dk : List D) : Prop := ∃ (d0 d1 seed d4 : Int) (ns : List Int), dk = [.int d0, .int d1, .int seed, .lst (ns.map D.int), .int d4] ∧ 0 ≤ d1
/-- a deck stands at a -/
def Deck (S : Sto) (a : Addr) : Prop := ∃ dk, S a = some (.lst dk) ∧ DeckOk dk
/-- the deck may have turned; all else of the store stands -/
structure DSt (S : Sto) (a : Addr) (S' : Sto) : Prop where
  deck : Deck S' a
  keep : ∀ b o, b ≠ a → S b = some o → S' b = some o
theorem DSt.refl {S : Sto} {a : Addr} (h : Deck S a) : DSt S a S := ⟨h, fun _ _ _ e => e⟩
theorem DSt.trans {S S1 S2 : Sto} {a : Addr} (x : DSt S a S1) (y : DSt S1 a S2) : DSt S a S2 := ⟨y.deck, fun b o n e => y.keep b o n (x.keep b o n e)⟩
theorem DSt.turn {S S1 : Sto} {a : Addr} {dk : List D} (x : DSt S a S1) (h : DeckOk dk) : DSt S a (put S1 a (.lst dk)) := ⟨⟨dk, put_same, h⟩, fun b o n e => by rw [put_ne n]; exact x.keep b o n e⟩
theorem DSt.put {S S1 : Sto} {a c : Addr} {o : O} (x : DSt S a S1) (n : S c = none) (ne : c ≠ a) : DSt S a (DL.put S1 c o) := by
  obtain ⟨⟨dk, h1, h2⟩, k⟩ := x
  refine ⟨⟨dk, by rw [put_ne ne.symm]; exact h1, h2⟩, fun b u nb e => ?_⟩
  have : b ≠ c := fun z => by rw [z, n] at e; cases e
  rw [put_ne this]; exact k b u nb e
theorem DSt.cut {S S1 : Sto} {a c : Addr} (x : DSt S a S1) (n : S c = none) (ne : c ≠ a) : DSt S a (DL.cut S1 c) := by
  obtain ⟨⟨dk, h1, h2⟩, k⟩ := x
  refine ⟨⟨dk, by rw [cut_ne ne.symm]; exact h1, h2⟩, fun b u nb e => ?_⟩
  have : b ≠ c := fun z => by rw [z, n] at e; cases e
  rw [cut_ne this]; exact k b u nb e
theorem Deck.ne {S : Sto} {a c : Addr} (h : Deck S a) (n : S c = none) : c ≠ a := fun e => by
  obtain ⟨dk, h1, _⟩ := h
  rw [e, h1] at n; cases n
/-- what a def that draws promises: the value is such -/
def drawn (R : D → Prop) : D → Sto → DQ → DX → Prop := fun d S Q _ => ∃ a, d = .ref a ∧ Deck S a ∧ ∀ v S', R v → DSt S a S' → Q v S'
end DL
namespace DL
open PySem PySem.Spec PyProof.Rows L2
theorem drawn_do {R : D → Prop} {a : Addr} {S : Sto} {Q : DQ} {E : DX} (h : Deck S a) (q : ∀ v S', R v → DSt S a S' → Q v S') : sp1 (drawn R) [.ref a] S Q E := ⟨a, rfl, h, q⟩
end DL
namespace DL
open PySem PySem.Spec PyProof.Rows L2
theorem cutD_to {α : Type} {xs : List α} {k : Int} (h : 0 ≤ k) : cutD xs none (some k) = xs.take k.toNat := by
  unfold cutD
  have e : HT.sIx xs.length xs.length (some k) = min k.toNat xs.length := by
    obtain ⟨n, rfl⟩ := Int.eq_ofNat_of_zero_le h
    exact HT.sIx_nat _ _ n
  rw [e, HT.sIx_none, List.drop_zero, Nat.sub_zero]
  by_cases z : k.toNat ≤ xs.length
  · rw [Nat.min_eq_left z]
  · rw [Nat.min_eq_right (by omega), List.take_length, List.take_of_length_le (by omega)]
theorem cutD_from {α : Type} {xs : List α} {k : Int} (h : 0 ≤ k) : cutD xs (some k) none = xs.drop k.toNat := by
  unfold cutD
  have e : HT.sIx xs.length 0 (some k) = min k.toNat xs.length := by
    obtain ⟨n, rfl⟩ := Int.eq_ofNat_of_zero_le h
    exact HT.sIx_nat _ _ n
  rw [e, HT.sIx_none]
  by_cases z : k.toNat ≤ xs.length
  · rw [Nat.min_eq_left z, List.take_of_length_le (by rw [List.length_drop]; omega)]
  · rw [Nat.min_eq_right (by omega), Nat.sub_self, List.take_zero, List.drop_of_length_le (by omega)]
end DL
namespace DL
open PySem PySem.Spec PyProof.Rows L2
/-! ### texts -/
/-- one sign -/
def sgD (c : Nat) : D := .str ⟨#[c]⟩
def signsD (x : Str) : List D := x.cps.toList.map sgD
theorem signs_get {x : Str} {i : Nat} {d : D} (h : (signsD x)[i]? = some d) : ∃ c, x.cps[i]? = some c ∧ d = sgD c := by
  unfold signsD at h
  rw [List.getElem?_map] at h
  cases e : x.cps.toList[i]? with
  | none => rw [e] at h; cases h
  | some c =>
    rw [e] at h; cases h
    exact ⟨c, by rw [← Array.getElem?_toList]; exact e, rfl⟩
theorem signs_len {x : Str} : (signsD x).length = x.length := by
  unfold signsD; rw [List.length_map]; rfl
def dwStr (m : ME) : MI := fun env S Q => m env S fun d S1 => match d with
  | .str x => x.length ≤ sizeLine ∧ Q (signsD x) okT S1
  | _ => False
theorem walks_str {K : Kz} {S : Sto} {H : Hp} {x : Str} : WalksD K (Its x) (signsD x) okT S H := fun Z' hz S' H' e R' _ i => by
  refine ⟨fun d hd => ?_, fun h => by rw [signs_len] at h; exact h⟩
  obtain ⟨c, hc, rfl⟩ := signs_get hd
  refine ⟨(Array.getElem?_eq_some_iff.mp hc).1, fun y H2 ⟨e2, c2, hy, ey⟩ => ?_⟩
  subst e2; subst ey
  rw [hc] at hy; cases hy
  exact ⟨Ext.refl, R', .str _⟩
section
variable {X : Cx} {B : Bs} {tg a b c e o : Expr} {ma mo me : ME} {pc pos apos : Pos}
theorem di_str (h : DE X B e ma) : DI X B tg e (dwStr ma) := PI_imp (pi_str h) fun σ H R ⟨env, S, Qd, s, q, f⟩ => by
  refine ⟨env, S, _, s, q, fun d S1 v H1 x1 R1 r1 q1 => ?_⟩
  cases d with
  | str x => cases r1; exact ⟨x, rfl, f _ _ S1 _ H1 x1 R1 walks_str (by rw [signs_len]; exact q1.1) q1.2⟩
  | _ => exact q1.elim
def strsOf : List D → Option (List Str)
  | [] => some []
  | .str b :: ds => (strsOf ds).map (b :: ·)
  | _ => none
@[simp] theorem strsOf_map (bs : List Str) : strsOf (bs.map D.str) = some bs := by
  induction bs with
  | nil => rfl
  | cons b bs ih => simp [strsOf, ih]
theorem strs_read {K : Kz} {S : Sto} {H : Hp} : ∀ {ds : List D} {vs : List V} {bs : List Str}, RepL K S H ds vs → strsOf ds = some bs → vs = bs.map V.str
  | [], _, _, r, h => by cases r; cases h; rfl
  | .str b :: ds, _, bs, r, h => by
    cases r with
    | cons a r =>
      cases a
      unfold strsOf at h
      cases e : strsOf ds with
      | none => rw [e] at h; cases h
      | some cs => rw [e] at h; cases h; rw [strs_read r e]; rfl
  | .non :: _, _, _, _, h => by cases h
  | .int _ :: _, _, _, _, h => by cases h
  | .bl _ :: _, _, _, _, h => by cases h
  | .ref _ :: _, _, _, _, h => by cases h
  | .ty _ :: _, _, _, _, h => by cases h
  | .tup _ :: _, _, _, _, h => by cases h
  | .lst _ :: _, _, _, _, h => by cases h
  | .obj _ _ _ :: _, _, _, _, h => by cases h
  | .dK _ _ :: _, _, _, _, h => by cases h
  | .dT _ _ :: _, _, _, _, h => by cases h
/-- sep.join(xs) -/
def joinP : D2 := fun x y S Q => match x with
  | .str a => match (seqOf S y).bind strsOf with
    | some ys => (ys.map (·.length)).sum + ys.length * a.length ≤ 16777216 ∧ Q (.str (Txt.join a ys)) S
    | none => False
  | _ => False
def dJoin (m m' : ME) : ME := fun env S Q => m env S fun x S1 => match x with
  | .str a => m' env S1 fun y S2 => joinP (.str a) y S2 Q
  | _ => False
theorem de_join (ho : DE X B o mo) (he : DE X B e me) (hs : starEach [e] X.env = [(false, eval e X.env)] := by rfl) (hbase : attributeBase o "join" X.env (eval o X.env) = eval o X.env := by rfl) (hline : (apos.endLine == pos.line) = true := by rfl) :
    DE X B (.Call (.Attribute o "join" apos) [e] [] pos) (dJoin mo me) := PE_imp (pe_join ho he hs hbase hline) fun σ H Q ⟨env, S, Qd, s, q, f⟩ => by
  refine ⟨env, S, _, s, q, fun x S1 v H1 x1 R1 r1 q1 => ?_⟩
  cases x with
  | str a =>
    cases r1
    refine ⟨⟨a, rfl⟩, env, S1, _, s.mono x1 R1, q1, fun y S2 w H2 x2 R2 r2 q2 => ?_⟩
    have f2 := (f.after x1).after x2
    unfold joinP at q2
    simp only at q2
    cases e1 : seqOf S2 y with
    | none => rw [e1] at q2; exact q2.elim
    | some ds =>
      cases e2 : strsOf ds with
      | none => rw [e1] at q2; simp only [Option.bind, e2] at q2
      | some ys =>
        rw [e1] at q2; simp only [Option.bind, e2] at q2
        obtain ⟨p, vs, rfl, sa, za, ra⟩ := seq_read R2 r2 e1
        have := strs_read ra e2
        subst this
        exact ⟨a, p, ys, rfl, rfl, sa, q2.1, f2.here R2 (.str _) q2.2⟩
  | _ => exact q1.elim
end
/-- the words of a list of signs -/
theorem join_signs (cs : List Nat) : Txt.join ⟨#[]⟩ (cs.map fun c => (⟨#[c]⟩ : Str)) = ⟨cs.toArray⟩ := by
  unfold Txt.join Builtin.Str.glued
  congr 1
  have h : ∀ (acc : Array Nat) (cs : List Nat), (List.map (fun c => (⟨#[c]⟩ : Str)) cs).foldl (fun acc p => acc ++ (#[] : Array Nat) ++ p.cps) acc = acc ++ cs.toArray := by
    intro acc cs
    induction cs generalizing acc with
    | nil => simp
    | cons c cs ih => rw [List.map_cons, List.foldl_cons, ih]; simp
  cases cs with
  | nil => rfl
  | cons c cs =>
    rw [List.map_cons, List.headD_cons, List.drop_one, List.tail_cons, h]
    simp
/-! ### small values -/
/-- a value that can be shown and compared: so deep, so long a text -/
def Small (k n : Nat) (d : D) : Prop := lay d = true ∧ deepD d ≤ k ∧ wt d ≤ n
theorem Small.mono {k n k' n' : Nat} {d : D} (h : Small k n d) (hk : k ≤ k') (hn : n ≤ n') : Small k' n' d := ⟨h.1, Nat.le_trans h.2.1 hk, Nat.le_trans h.2.2 hn⟩
theorem Small.plain {k n : Nat} {d : D} (h : Small k n d) : plain d = true := (lay_py d h.1).1
theorem Small.shows {k n : Nat} {d : D} (h : Small k n d) (hk : k ≤ 60) (hn : n ≤ 16777216) : Shows d := shows_of h.1 (Nat.le_trans h.2.1 (by omega)) (szL (Nat.le_trans h.2.2 hn))
theorem Small.okE {k n : Nat} {d : D} (h : Small k n d) (hk : k ≤ 60) : okE d = true := okE_lay h.1 (Nat.le_trans h.2.1 (by omega))
theorem small_all {k n : Nat} : ∀ {xs : List D}, (∀ x ∈ xs, Small k n x) → layAll xs = true ∧ deepAll xs ≤ k ∧ wtAll xs ≤ (n + 2) * xs.length
  | [], _ => ⟨rfl, Nat.zero_le _, Nat.le_refl _⟩
  | x :: xs, h => by
    obtain ⟨h1, h2, h3⟩ := h x List.mem_cons_self
    obtain ⟨g1, g2, g3⟩ := small_all (xs := xs) fun y hy => h y (List.mem_cons_of_mem _ hy)
    simp only [layAll, deepAll, wtAll, h1, g1, List.length_cons]
    refine ⟨rfl, ?_, ?_⟩
    · omega
    · rw [Nat.mul_add, Nat.mul_one]; omega
theorem small_tup {k n m : Nat} {xs : List D} (hl : xs.length ≤ m) (h : ∀ x ∈ xs, Small k n x) : Small (k + 1) ((n + 2) * m + 3) (.tup xs) := by
  obtain ⟨h1, h2, h3⟩ := small_all h
  have := Nat.mul_le_mul_left (n + 2) hl
  refine ⟨h1, ?_, ?_⟩
  · show deepAll xs + 1 ≤ _; omega
  · show wtAll xs + 3 ≤ _; omega
theorem small_lst {k n m : Nat} {xs : List D} (hl : xs.length ≤ m) (h : ∀ x ∈ xs, Small k n x) : Small (k + 1) ((n + 2) * m + 3) (.lst xs) := by
  obtain ⟨h1, h2, h3⟩ := small_all h
  have := Nat.mul_le_mul_left (n + 2) hl
  refine ⟨h1, ?_, ?_⟩
  · show deepAll xs + 1 ≤ _; omega
  · show wtAll xs + 2 ≤ _; omega
theorem small_str {n : Nat} {x : Str} (hl : x.length ≤ n) (h : PyData.strOk x = true) : Small 0 (10 * n + 2) (.str x) := by
  refine ⟨h, Nat.le_refl _, ?_⟩
  show 10 * x.length + 2 ≤ _; omega
theorem log2_lt_int {i : Int} {k : Nat} (h0 : -(2 ^ k) < i) (h1 : i < 2 ^ k) (hk : 0 < k) : i.natAbs.log2 < k := by
  have h : i.natAbs < 2 ^ k := by
    have e : ((2 ^ k : Nat) : Int) = 2 ^ k := by simp
    omega
  exact PySem.Flt.log2_lt_of hk h
theorem small_int {i : Int} (h0 : -(2 ^ 60) < i) (h1 : i < 2 ^ 60) : Small 0 63 (.int i) := by
  have := log2_lt_int (k := 60) h0 h1 (by decide)
  refine ⟨decide_eq_true (by omega), Nat.le_refl _, ?_⟩
  show i.natAbs.log2 + 3 ≤ 63
  omega
theorem small_bl {b : Bool} : Small 0 5 (.bl b) := ⟨rfl, Nat.le_refl _, by cases b <;> decide⟩
theorem small_non : Small 0 5 .non := ⟨rfl, Nat.le_refl _, by decide⟩
theorem neP_bl {a b : Bool} {S : Sto} {Q : DQ} (e : a = b) (q : Q (.bl false) S) : neP (.bl a) (.bl b) S Q := by
  show Q (.bl (!decide (a = b))) S
  rw [decide_eq_true e]; exact q
theorem neP_str {a b : Str} {S : Sto} {Q : DQ} (e : a = b) (q : Q (.bl false) S) : neP (.str a) (.str b) S Q := by
  show Q (.bl (!decide (a = b))) S
  rw [decide_eq_true e]; exact q
end DL
/-! The readings step by step: what comes behind stays folded until its turn. -/
namespace DL
open PySem PySem.Spec PyProof.Rows L2
/-- some a there -/
def zOpt {α : Type} (k : α → Prop) : Option α → Prop
  | some a => k a
  | none => False
theorem z_some {α : Type} {k : α → Prop} {a : α} : zOpt k (some a) = k a := rfl
/-- a branch -/
def zIte (p q : Prop) : Bool → Prop
  | true => p
  | false => q
theorem z_tt {p q : Prop} : zIte p q true = p := rfl
theorem z_ff {p q : Prop} : zIte p q false = q := rfl
theorem zIte_eq {p q : Prop} {b : Bool} : (if b = true then p else q) = zIte p q b := by cases b <;> rfl
theorem z_if {p q : Prop} {b : Bool} (h1 : b = true → p) (h2 : b = false → q) : zIte p q b := by cases b with
  | true => exact h1 rfl
  | false => exact h2 rfl
section
variable {α : Type} {d x y : D} {ds xs ys : List D} {env env' : DEnv} {S : Sto} {Q : DQ} {D0 : DEnds} {m ma mb mc mo mi : ME} {t u : MS} {mt mt' : MT} {mr : MA} {p p' : D2} {i j : Int} {a : Addr} {b : Bool} {n k : Nat}
/-! names -/
def zVar (S : Sto) (Q : DQ) : Option (Option D) → Prop
  | some (some d) => Q d S
  | _ => False
theorem z_var : dVar k env S Q = zVar S Q env[k]? := rfl
theorem z_var1 : zVar S Q (some (some d)) = Q d S := rfl
theorem z_c : dC d env S Q = Q d S := rfl
/-! argument lists -/
def zCons1 (mr : MA) (env : DEnv) (Q : List D → Sto → Prop) (d : D) (S1 : Sto) : Prop := mr env S1 fun ds S2 => Q (d :: ds) S2
def zCons2 (Q : List D → Sto → Prop) (d : D) (ds : List D) (S2 : Sto) : Prop := Q (d :: ds) S2
theorem z_cons {Q : List D → Sto → Prop} : dCons m mr env S Q = m env S (zCons1 mr env Q) := rfl
theorem z_cons1 {Q : List D → Sto → Prop} : zCons1 mr env Q d S = mr env S (zCons2 Q d) := rfl
theorem z_cons2 {Q : List D → Sto → Prop} : zCons2 Q d ds S = Q (d :: ds) S := rfl
theorem z_nil {Q : List D → Sto → Prop} : dNil env S Q = Q [] S := rfl
def zTup (Q : DQ) (ds : List D) (S1 : Sto) : Prop := ds.length ≤ sizeLine ∧ Q (.tup ds) S1
def zLst (Q : DQ) (ds : List D) (S1 : Sto) : Prop := ds.length ≤ sizeLine ∧ Q (.lst ds) S1
def zLstO (Q : DQ) (ds : List D) (S1 : Sto) : Prop := ds.length ≤ sizeLine ∧ ∀ p, S1 p = none → Q (.ref p) (put S1 p (.lst ds))
theorem z_tup : dTup mr env S Q = mr env S (zTup Q) := rfl
theorem z_lst : dLst mr env S Q = mr env S (zLst Q) := rfl
theorem z_lstO : dLstO mr env S Q = mr env S (zLstO Q) := rfl
theorem zz_tup : zTup Q ds S = (ds.length ≤ sizeLine ∧ Q (.tup ds) S) := rfl
theorem zz_lst : zLst Q ds S = (ds.length ≤ sizeLine ∧ Q (.lst ds) S) := rfl
theorem zz_lstO : zLstO Q ds S = (ds.length ≤ sizeLine ∧ ∀ p, S p = none → Q (.ref p) (put S p (.lst ds))) := rfl
/-! operators -/
def zOp1 (p : D2) (mb : ME) (env : DEnv) (Q : DQ) (x : D) (S1 : Sto) : Prop := mb env S1 fun y S2 => p x y S2 Q
def zOp2 (p : D2) (x : D) (Q : DQ) (y : D) (S2 : Sto) : Prop := p x y S2 Q
theorem z_op : dOp p ma mb env S Q = ma env S (zOp1 p mb env Q) := rfl
theorem z_op1 : zOp1 p mb env Q x S = mb env S (zOp2 p x Q) := rfl
theorem z_op2 : zOp2 p x Q y S = p x y S Q := rfl
def zUn (p : D1) (Q : DQ) (x : D) (S1 : Sto) : Prop := p x S1 Q
theorem z_un {p : D1} : dUn p ma env S Q = ma env S (zUn p Q) := rfl
theorem z_un1 {p : D1} : zUn p Q x S = p x S Q := rfl
def zTest (Q : Bool → Sto → Prop) : D → Sto → Prop
  | .bl k, S => Q k S
  | _, _ => False
theorem z_test {Q : Bool → Sto → Prop} : dTest m env S Q = m env S (zTest Q) := by
  unfold dTest
  congr 1
  funext x S1
  cases x <;> rfl
theorem z_test1 {Q : Bool → Sto → Prop} : zTest Q (.bl b) S = Q b S := rfl
def zTru (Q : Bool → Sto → Prop) (x : D) (S1 : Sto) : Prop := zOpt (fun k => Q k S1) (truD S1 x)
def zTru2 (Q : Bool → Sto → Prop) (S1 : Sto) (k : Bool) : Prop := Q k S1
theorem z_tru {Q : Bool → Sto → Prop} : dTru m env S Q = m env S (zTru Q) := by
  unfold dTru
  congr 1
  funext x S1
  unfold zTru
  cases truD S1 x <;> rfl
theorem z_tru1 {Q : Bool → Sto → Prop} : zTru Q x S = zOpt (zTru2 Q S) (truD S x) := rfl
theorem z_tru2 {Q : Bool → Sto → Prop} : zTru2 Q S b = Q b S := rfl
theorem truD_bl : truD S (.bl b) = some b := rfl
theorem truD_int : truD S (.int i) = some (i != 0) := rfl
theorem truD_tup : truD S (.tup xs) = some (!xs.isEmpty) := rfl
theorem truD_lst : truD S (.lst xs) = some (!xs.isEmpty) := rfl
theorem truD_non : truD S .non = some false := rfl
theorem truD_ref : truD S (.ref a) = (lstOf S (.ref a)).map fun xs => !xs.isEmpty := rfl
def zAnd (u : MT) (env : DEnv) (Q : Bool → Sto → Prop) : Bool → Sto → Prop
  | true, S1 => u env S1 Q
  | false, S1 => Q false S1
theorem z_and {Q : Bool → Sto → Prop} : dAnd mt mt' env S Q = mt env S (zAnd mt' env Q) := by
  unfold dAnd; congr 1; funext b S1; cases b <;> rfl
theorem z_and_t {Q : Bool → Sto → Prop} : zAnd mt env Q true S = mt env S Q := rfl
theorem z_and_f {Q : Bool → Sto → Prop} : zAnd mt env Q false S = Q false S := rfl
def zOr (u : MT) (env : DEnv) (Q : Bool → Sto → Prop) : Bool → Sto → Prop
  | true, S1 => Q true S1
  | false, S1 => u env S1 Q
theorem z_or {Q : Bool → Sto → Prop} : dOr mt mt' env S Q = mt env S (zOr mt' env Q) := by
  unfold dOr; congr 1; funext b S1; cases b <;> rfl
theorem z_or_t {Q : Bool → Sto → Prop} : zOr mt env Q true S = Q true S := rfl
theorem z_or_f {Q : Bool → Sto → Prop} : zOr mt env Q false S = mt env S Q := rfl
def zNot (Q : Bool → Sto → Prop) (b : Bool) (S1 : Sto) : Prop := Q (!b) S1
theorem z_not {Q : Bool → Sto → Prop} : dNot mt env S Q = mt env S (zNot Q) := rfl
theorem z_not1 {Q : Bool → Sto → Prop} : zNot Q b S = Q (!b) S := rfl
def zAndV (u : ME) (env : DEnv) (Q : DQ) : D → Sto → Prop
  | .bl true, S1 => u env S1 Q
  | .bl false, S1 => Q (.bl false) S1
  | _, _ => False
theorem z_andV : dAndV ma mb env S Q = ma env S (zAndV mb env Q) := by
  unfold dAndV; congr 1; funext x S1; cases x <;> first | rfl | (rename_i b; cases b <;> rfl)
theorem z_andV_t : zAndV ma env Q (.bl true) S = ma env S Q := rfl
theorem z_andV_f : zAndV ma env Q (.bl false) S = Q (.bl false) S := rfl
def zOrV (u : ME) (env : DEnv) (Q : DQ) : D → Sto → Prop
  | .bl false, S1 => u env S1 Q
  | .bl true, S1 => Q (.bl true) S1
  | _, _ => False
theorem z_orV : dOrV ma mb env S Q = ma env S (zOrV mb env Q) := by
  unfold dOrV; congr 1; funext x S1; cases x <;> first | rfl | (rename_i b; cases b <;> rfl)
theorem z_orV_t : zOrV ma env Q (.bl true) S = Q (.bl true) S := rfl
theorem z_orV_f : zOrV ma env Q (.bl false) S = ma env S Q := rfl
def zNotV (Q : DQ) : D → Sto → Prop
  | .bl c, S1 => Q (.bl (!c)) S1
  | _, _ => False
theorem z_notV : dNotV ma env S Q = ma env S (zNotV Q) := by
  unfold dNotV; congr 1; funext x S1; cases x <;> rfl
theorem z_notV1 : zNotV Q (.bl b) S = Q (.bl (!b)) S := rfl
def zIfE (u v : ME) (env : DEnv) (Q : DQ) : Bool → Sto → Prop
  | true, S1 => u env S1 Q
  | false, S1 => v env S1 Q
theorem z_ifE : dIfE mt ma mb env S Q = mt env S (zIfE ma mb env Q) := by
  unfold dIfE; congr 1; funext b S1; cases b <;> rfl
theorem z_ifE_t : zIfE ma mb env Q true S = ma env S Q := rfl
theorem z_ifE_f : zIfE ma mb env Q false S = mb env S Q := rfl
/-! statements -/
theorem z_next : dNext D0 env S = D0.nx env S := rfl
theorem z_seq : dSeq t u D0 env S = t { D0 with nx := u D0 } env S := rfl
theorem z_brk : dBreak D0 env S = D0.bk env S := rfl
theorem z_cnt : dCont D0 env S = D0.ct env S := rfl
def zDrop (D0 : DEnds) (env : DEnv) (_ : D) (S1 : Sto) : Prop := D0.nx env S1
theorem z_drop : dDrop m D0 env S = m env S (zDrop D0 env) := rfl
theorem z_drop1 : zDrop D0 env x S = D0.nx env S := rfl
theorem z_ret : dRet m D0 env S = m env S D0.rt := rfl
theorem z_retN : dRetN D0 env S = D0.rt .non S := rfl
def zIf (t u : MS) (D0 : DEnds) (env : DEnv) : Bool → Sto → Prop
  | true, S1 => t D0 env S1
  | false, S1 => u D0 env S1
theorem z_ifS : dIf mt t u D0 env S = mt env S (zIf t u D0 env) := by
  unfold dIf; congr 1; funext b S1; cases b <;> rfl
theorem z_if_t : zIf t u D0 env true S = t D0 env S := rfl
theorem z_if_f : zIf t u D0 env false S = u D0 env S := rfl
theorem zIf_by (h1 : b = true → t D0 env S) (h2 : b = false → u D0 env S) : zIf t u D0 env b S := by
  cases b with
  | true => exact h1 rfl
  | false => exact h2 rfl
def zSet (D0 : DEnds) (i : Nat) (env : DEnv) (d : D) (S1 : Sto) : Prop := D0.nx (env.set i (some d)) S1
theorem z_set : dSet k m D0 env S = m env S (zSet D0 k env) := rfl
theorem z_set1 : zSet D0 k env d S = D0.nx (env.set k (some d)) S := rfl
def zAsg (D0 : DEnds) (g : MG) (env : DEnv) (d : D) (S1 : Sto) : Prop := g d env S1 D0.nx
theorem z_asg {g : MG} : dAsg m g D0 env S = m env S (zAsg D0 g env) := rfl
theorem z_asg1 {g : MG} : zAsg D0 g env d S = g d env S D0.nx := rfl
theorem z_gName {Q : DEnv → Sto → Prop} : dgName k d env S Q = Q (env.set k (some d)) S := rfl
theorem z_gNil {Q : DEnv → Sto → Prop} : dgNil [] env S Q = Q env S := by unfold dgNil; simp
def zgCons (u : MGs) (r : List D) (Q : DEnv → Sto → Prop) (env' : DEnv) (S' : Sto) : Prop := u r env' S' Q
theorem z_gCons {g : MG} {u : MGs} {r : List D} {Q : DEnv → Sto → Prop} : dgCons g u (d :: r) env S Q = g d env S (zgCons u r Q) := rfl
theorem z_gCons1 {u : MGs} {r : List D} {Q : DEnv → Sto → Prop} : zgCons u r Q env S = u r env S Q := rfl
theorem z_gTup {u : MGs} {Q : DEnv → Sto → Prop} : dgTup n u (.tup ds) env S Q = (ds.length = n ∧ u ds env S Q) := rfl
def zgSub1 (mi : ME) (d : D) (env : DEnv) (Q : DEnv → Sto → Prop) (x : D) (S1 : Sto) : Prop := mi env S1 fun y S2 => match x, y with
  | .ref a, .int i => match S2 a with
    | some (.lst ds) => match ixN ds.length i with
      | some j => Q env (put S2 a (.lst (ds.set j d)))
      | none => False
    | _ => False
  | _, _ => False
def zgSub2 (d : D) (env : DEnv) (Q : DEnv → Sto → Prop) (x : D) (y : D) (S2 : Sto) : Prop := match x, y with
  | .ref a, .int i => match S2 a with
    | some (.lst ds) => match ixN ds.length i with
      | some j => Q env (put S2 a (.lst (ds.set j d)))
      | none => False
    | _ => False
  | _, _ => False
theorem z_gSub {Q : DEnv → Sto → Prop} : dgSub mo mi d env S Q = mo env S (zgSub1 mi d env Q) := rfl
theorem z_gSub1 {Q : DEnv → Sto → Prop} : zgSub1 mi d env Q x S = mi env S (zgSub2 d env Q x) := rfl
theorem zgSub_do {Q : DEnv → Sto → Prop} (h : S a = some (.lst ds)) (hi : ixN ds.length i = some k) (q : Q env (put S a (.lst (ds.set k d)))) : zgSub2 d env Q (.ref a) (.int i) S := by
  unfold zgSub2
  simp only [h, hi]
  exact q
def zgSubS (d : D) (env : DEnv) (Q : DEnv → Sto → Prop) (S : Sto) (a : Addr) (i : Int) (o : O) : Prop := match o with
  | .lst ds => zOpt (fun j => Q env (put S a (.lst (ds.set j d)))) (ixN ds.length i)
  | _ => False
theorem z_gSub_put {Q : DEnv → Sto → Prop} : zgSub2 d env Q (.ref a) (.int i) (put S a (.lst ds)) = zOpt (fun j => Q env (put S a (.lst (ds.set j d)))) (ixN ds.length i) := by
  unfold zgSub2
  simp only [put_same, put_put]
  cases ixN ds.length i <;> rfl
/-! calls -/
def zCB (p : DN) (Q : DQ) (ds : List D) (S1 : Sto) : Prop := p ds S1 Q
theorem z_cb {p : DN} : dCB p mr env S Q = mr env S (zCB p Q) := rfl
theorem z_cb1 {p : DN} : zCB p Q ds S = p ds S Q := rfl
def zCall (p : DSp) (dds : List D) (Wd : WD) (env : DEnv) (Q : DQ) (ds : List D) (S1 : Sto) : Prop := p (ds ++ dds) S1 Q fun C ns ds S' => Wd C ns ds env S'
def zX (Wd : WD) (env : DEnv) : DX := fun C ns ds S' => Wd C ns ds env S'
theorem z_call {p : DSp} {dds : List D} {Wd : WD} : dCall p dds Wd mr env S Q = mr env S (zCall p dds Wd env Q) := rfl
theorem z_call1 {p : DSp} {dds : List D} {Wd : WD} : zCall p dds Wd env Q ds S = p (ds ++ dds) S Q (zX Wd env) := rfl
def zMeth (T : String) (p : DM) (mr : MA) (env : DEnv) (Q : DQ) (x : D) (S1 : Sto) : Prop := tyD S1 x = some T ∧ mr env S1 fun ds S2 => p x ds S2 Q
def zMeth2 (p : DM) (x : D) (Q : DQ) (ds : List D) (S2 : Sto) : Prop := p x ds S2 Q
theorem z_meth {T : String} {p : DM} : dMeth T p m mr env S Q = m env S (zMeth T p mr env Q) := rfl
theorem z_meth1 {T : String} {p : DM} : zMeth T p mr env Q x S = (tyD S x = some T ∧ mr env S (zMeth2 p x Q)) := rfl
theorem z_meth2 {p : DM} : zMeth2 p x Q ds S = p x ds S Q := rfl
/-! comparisons in a row, is None -/
def zCh1 (p p' : D2) (mb mc : ME) (env : DEnv) (Q : DQ) (x : D) (S1 : Sto) : Prop := mb env S1 fun y S2 => p x y S2 fun z S3 => match z with
  | .bl true => mc env S3 fun u S4 => p' y u S4 Q
  | .bl false => Q (.bl false) S3
  | _ => False
def zCh2 (p p' : D2) (mc : ME) (env : DEnv) (Q : DQ) (x y : D) (S2 : Sto) : Prop := p x y S2 fun z S3 => match z with
  | .bl true => mc env S3 fun u S4 => p' y u S4 Q
  | .bl false => Q (.bl false) S3
  | _ => False
def zCh3 (p' : D2) (mc : ME) (env : DEnv) (Q : DQ) (y : D) (z : D) (S3 : Sto) : Prop := match z with
  | .bl true => mc env S3 fun u S4 => p' y u S4 Q
  | .bl false => Q (.bl false) S3
  | _ => False
theorem z_chain : dChain p p' ma mb mc env S Q = ma env S (zCh1 p p' mb mc env Q) := rfl
theorem z_ch1 : zCh1 p p' mb mc env Q x S = mb env S (zCh2 p p' mc env Q x) := rfl
theorem z_ch2 : zCh2 p p' mc env Q x y S = p x y S (zCh3 p' mc env Q y) := rfl
theorem z_ch3t : zCh3 p' mc env Q y (.bl true) S = mc env S (zOp2 p' y Q) := rfl
theorem z_ch3f : zCh3 p' mc env Q y (.bl false) S = Q (.bl false) S := rfl
def zIsN (neg : Bool) (Q : DQ) (x : D) (S1 : Sto) : Prop := Q (.bl (neg != isNon x)) S1
theorem z_isN {neg : Bool} : dIsN neg m env S Q = m env S (zIsN neg Q) := rfl
theorem z_isN1 {neg : Bool} : zIsN neg Q x S = Q (.bl (neg != isNon x)) S := rfl
/-! slices -/
theorem z_noPart {Q : Option Int → Sto → Prop} : dNoPart env S Q = Q none S := rfl
def zPart (Q : Option Int → Sto → Prop) : D → Sto → Prop
  | .int i, S1 => Q (some i) S1
  | _, _ => False
theorem z_part {Q : Option Int → Sto → Prop} : dPart m env S Q = m env S (zPart Q) := by
  unfold dPart; congr 1; funext x S1; cases x <;> rfl
theorem z_part1 {Q : Option Int → Sto → Prop} : zPart Q (.int i) S = Q (some i) S := rfl
def zSl1 (ml mh : MO) (env : DEnv) (Q : DQ) (x : D) (S1 : Sto) : Prop := ml env S1 fun l S2 => mh env S2 fun h S3 => slP x l h S3 Q
def zSl2 (mh : MO) (env : DEnv) (Q : DQ) (x : D) (l : Option Int) (S2 : Sto) : Prop := mh env S2 fun h S3 => slP x l h S3 Q
def zSl3 (Q : DQ) (x : D) (l h : Option Int) (S3 : Sto) : Prop := slP x l h S3 Q
theorem z_sl {ml mh : MO} : dSl m ml mh env S Q = m env S (zSl1 ml mh env Q) := rfl
theorem z_sl1 {ml mh : MO} : zSl1 ml mh env Q x S = ml env S (zSl2 mh env Q x) := rfl
theorem z_sl2 {mh : MO} {l : Option Int} : zSl2 mh env Q x l S = mh env S (zSl3 Q x l) := rfl
theorem z_sl3 {l h : Option Int} : zSl3 Q x l h S = slP x l h S Q := rfl
theorem slP_tup {l h : Option Int} : slP (.tup ds) l h S Q = Q (.tup (cutD ds l h)) S := rfl
theorem slP_str {x : Str} {l h : Option Int} : slP (.str x) l h S Q = (x.length ≤ sizeLine ∧ Q (.str (cutS x l h)) S) := rfl
theorem slP_lst {l h : Option Int} : slP (.lst ds) l h S Q = Q (.lst (cutD ds l h)) S := rfl
theorem slP_ref {l h : Option Int} : slP (.ref a) l h S Q = zOpt (fun ds => Q (.lst (cutD ds l h)) S) (lstOf S (.ref a)) := by
  show (match lstOf S (.ref a) with | some ds => Q (.lst (cutD ds l h)) S | none => False) = _
  cases lstOf S (.ref a) <;> rfl
/-! loops -/
theorem z_forNil {g : MG} {ok : Sto → Prop} : forR g t ok D0 [] env S = (ok S ∧ D0.nx env S) := rfl
def zFor (g : MG) (tb : MS) (D0 : DEnds) (env : DEnv) (ds : List D) (ok : Sto → Prop) (S1 : Sto) : Prop := forR g tb ok D0 ds env S1
theorem z_for {wi : MI} {g : MG} : dFor wi g t D0 env S = wi env S (zFor g t D0 env) := rfl
theorem z_for1 {g : MG} {ok : Sto → Prop} : zFor g t D0 env ds ok S = forR g t ok D0 ds env S := rfl
def zLc (g : MG) (tt : MT) (te : ME) (env0 : DEnv) (Q : DQ) (ds : List D) (ok : Sto → Prop) (S1 : Sto) : Prop := lcR g tt te ok env0 (fun acc S2 => Q (.lst acc) S2) ds [] S1
def zLcE (Q : DQ) (acc : List D) (S2 : Sto) : Prop := Q (.lst acc) S2
def zLcOE (Q : DQ) (acc : List D) (S2 : Sto) : Prop := ∀ p, S2 p = none → Q (.ref p) (put S2 p (.lst acc))
def zLcO (g : MG) (tt : MT) (te : ME) (env0 : DEnv) (Q : DQ) (ds : List D) (ok : Sto → Prop) (S1 : Sto) : Prop := lcR g tt te ok env0 (fun acc S2 => ∀ p, S2 p = none → Q (.ref p) (put S2 p (.lst acc))) ds [] S1
theorem z_lc {wi : MI} {g : MG} {te : ME} {vs : List Nat} : dLc wi g mt te vs env S Q = wi env S (zLc g mt te (dwipe env vs) Q) := rfl
theorem z_lc1 {g : MG} {te : ME} {ok : Sto → Prop} : zLc g mt te env Q ds ok S = lcR g mt te ok env (zLcE Q) ds [] S := rfl
theorem z_lcE : zLcE Q ds S = Q (.lst ds) S := rfl
theorem z_lcO {wi : MI} {g : MG} {te : ME} {vs : List Nat} : dLcO wi g mt te vs env S Q = wi env S (zLcO g mt te (dwipe env vs) Q) := rfl
theorem z_lcO1 {g : MG} {te : ME} {ok : Sto → Prop} : zLcO g mt te env Q ds ok S = lcR g mt te ok env (zLcOE Q) ds [] S := rfl
theorem z_lcOE : zLcOE Q ds S = ∀ p, S p = none → Q (.ref p) (put S p (.lst ds)) := rfl
theorem z_yes {Q : Bool → Sto → Prop} : dYes env S Q = Q true S := rfl
def zwSeq (Q : List D → (Sto → Prop) → Sto → Prop) (d : D) (S1 : Sto) : Prop := match d with
  | .tup ds => Q ds okT S1
  | .lst ds => Q ds okT S1
  | .ref a => match S1 a with
    | some (.lst ds) => Q ds (fun S => S a = some (.lst ds)) S1
    | _ => False
  | _ => False
theorem z_wSeq {Q : List D → (Sto → Prop) → Sto → Prop} : dwSeq m env S Q = m env S (zwSeq Q) := rfl
theorem z_wSeq_tup {Q : List D → (Sto → Prop) → Sto → Prop} : zwSeq Q (.tup ds) S = Q ds okT S := rfl
theorem z_wSeq_lst {Q : List D → (Sto → Prop) → Sto → Prop} : zwSeq Q (.lst ds) S = Q ds okT S := rfl
theorem zwSeq_ref {Q : List D → (Sto → Prop) → Sto → Prop} (h : S a = some (.lst ds)) (q : Q ds (fun S => S a = some (.lst ds)) S) : zwSeq Q (.ref a) S := by
  unfold zwSeq; simp only [h]; exact q
def zwStr (Q : List D → (Sto → Prop) → Sto → Prop) : D → Sto → Prop
  | .str x, S1 => x.length ≤ sizeLine ∧ Q (signsD x) okT S1
  | _, _ => False
theorem z_wStr {Q : List D → (Sto → Prop) → Sto → Prop} : dwStr m env S Q = m env S (zwStr Q) := by
  unfold dwStr; congr 1; funext x S1; cases x <;> rfl
theorem z_wStr1 {x : Str} {Q : List D → (Sto → Prop) → Sto → Prop} : zwStr Q (.str x) S = (x.length ≤ sizeLine ∧ Q (signsD x) okT S) := rfl
def zRng1 (Q : List D → (Sto → Prop) → Sto → Prop) (ds : List D) (S1 : Sto) : Prop := match ds with
  | [.int j] => -(2 ^ 62) ≤ j ∧ j ≤ 16777216 ∧ Q (upTo 0 j.toNat) okT S1
  | _ => False
theorem z_rng1 {Q : List D → (Sto → Prop) → Sto → Prop} : dwRng1 mr env S Q = mr env S (zRng1 Q) := rfl
theorem zz_rng1 {Q : List D → (Sto → Prop) → Sto → Prop} : zRng1 Q [.int j] S = (-(2 ^ 62) ≤ j ∧ j ≤ 16777216 ∧ Q (upTo 0 j.toNat) okT S) := rfl
def zRng2 (Q : List D → (Sto → Prop) → Sto → Prop) (ds : List D) (S1 : Sto) : Prop := match ds with
  | [.int i, .int j] => (-(2 ^ 62) ≤ i ∧ i < 2 ^ 62 ∧ -(2 ^ 62) ≤ j ∧ j < 2 ^ 62 ∧ j - i ≤ 16777216) ∧ Q (upTo i (j - i).toNat) okT S1
  | _ => False
theorem z_rng2 {Q : List D → (Sto → Prop) → Sto → Prop} : dwRng2 mr env S Q = mr env S (zRng2 Q) := rfl
theorem zz_rng2 {Q : List D → (Sto → Prop) → Sto → Prop} : zRng2 Q [.int i, .int j] S = ((-(2 ^ 62) ≤ i ∧ i < 2 ^ 62 ∧ -(2 ^ 62) ≤ j ∧ j < 2 ^ 62 ∧ j - i ≤ 16777216) ∧ Q (upTo i (j - i).toNat) okT S) := rfl
theorem z_wipe0 : dwipe env [] = env := rfl
theorem z_wipe1 {v : Nat} {vs : List Nat} : dwipe env (v :: vs) = (dwipe env vs).set v none := rfl
/-! operations at known values -/
theorem zo_add : addP (.int i) (.int j) S Q = Q (.int (i + j)) S := rfl
theorem zo_addS {x y : Str} : addP (.str x) (.str y) S Q = (x.length + y.length ≤ sizeLine ∧ Q (.str (x ++ y)) S) := rfl
theorem zo_addT : addP (.tup xs) (.tup ys) S Q = (xs.length + ys.length ≤ sizeLine ∧ Q (.tup (xs ++ ys)) S) := rfl
theorem zo_addL : addP (.lst xs) (.lst ys) S Q = (xs.length + ys.length ≤ sizeLine ∧ Q (.lst (xs ++ ys)) S) := rfl
theorem zo_addRL (h : S a = some (.lst xs)) (q : xs.length + ys.length ≤ sizeLine ∧ Q (.lst (xs ++ ys)) S) : addP (.ref a) (.lst ys) S Q := by
  unfold addP; simp only [lstOf_ref h, lstOf_lst]; exact q
theorem zo_addLR (h : S a = some (.lst ys)) (q : xs.length + ys.length ≤ sizeLine ∧ Q (.lst (xs ++ ys)) S) : addP (.lst xs) (.ref a) S Q := by
  unfold addP; simp only [lstOf_ref h, lstOf_lst]; exact q
theorem zo_sub : subP (.int i) (.int j) S Q = Q (.int (i - j)) S := rfl
theorem zo_mul : mulP (.int i) (.int j) S Q = (((-(2 ^ 64) < i ∧ i < 2 ^ 64) ∨ (-(2 ^ 64) < j ∧ j < 2 ^ 64)) ∧ Q (.int (i * j)) S) := rfl
theorem zo_fdiv : fdivP (.int i) (.int j) S Q = ((0 < j ∧ j < 2 ^ 64) ∧ Q (.int (i / j)) S) := rfl
theorem zo_mod : modP (.int i) (.int j) S Q = (0 < j ∧ Q (.int (i % j)) S) := rfl
theorem zo_pow : powP (.int i) (.int j) S Q = ((0 ≤ j ∧ j ≤ 1000000 ∧ i.natAbs < 2 ^ 64) ∧ Q (.int (i ^ j.toNat)) S) := rfl
theorem zo_neg : negP (.int i) S Q = Q (.int (-i)) S := rfl
theorem zo_cmp {f : Int → Int → Bool} : cmpP f (.int i) (.int j) S Q = Q (.bl (f i j)) S := rfl
theorem zo_eqI : eqP (.int i) (.int j) S Q = Q (.bl (decide (i = j))) S := rfl
theorem zo_eqS {x y : Str} : eqP (.str x) (.str y) S Q = Q (.bl (decide (x = y))) S := rfl
theorem zo_eqB {x y : Bool} : eqP (.bl x) (.bl y) S Q = Q (.bl (decide (x = y))) S := rfl
theorem zo_neI : neP (.int i) (.int j) S Q = Q (.bl (!decide (i = j))) S := rfl
theorem zo_neS {x y : Str} : neP (.str x) (.str y) S Q = Q (.bl (!decide (x = y))) S := rfl
theorem zo_neB {x y : Bool} : neP (.bl x) (.bl y) S Q = Q (.bl (!decide (x = y))) S := rfl
theorem zo_eqT : eqP (.tup xs) y S Q = (okE (.tup xs) = true ∧ okE y = true ∧ Q (.bl (eqD (.tup xs) y)) S) := rfl
theorem zo_neT : neP (.tup xs) y S Q = (okE (.tup xs) = true ∧ okE y = true ∧ Q (.bl (!eqD (.tup xs) y)) S) := rfl
theorem zo_eqL : eqP (.lst xs) y S Q = (okE (.lst xs) = true ∧ okE y = true ∧ Q (.bl (eqD (.lst xs) y)) S) := rfl
theorem zo_neL : neP (.lst xs) y S Q = (okE (.lst xs) = true ∧ okE y = true ∧ Q (.bl (!eqD (.lst xs) y)) S) := rfl
theorem zo_eqN : eqP .non y S Q = (okE .non = true ∧ okE y = true ∧ Q (.bl (eqD .non y)) S) := rfl
theorem zo_neN : neP .non y S Q = (okE .non = true ∧ okE y = true ∧ Q (.bl (!eqD .non y)) S) := rfl
theorem zo_inT {neg : Bool} {i : Int} : inP neg (.int i) y S Q = (match seqOf S y with
    | some ds => okE (.int i) = true ∧ okE (.lst ds) = true ∧ Q (.bl (neg != ds.any fun z => eqD z (.int i))) S
    | none => False) := rfl
def zIx (S : Sto) (Q : DQ) : Option D → Prop
  | some d => Q d S
  | none => False
theorem z_ix1 : zIx S Q (some d) = Q d S := rfl
theorem zo_ixT : ixP (.tup ds) (.int i) S Q = zIx S Q (atI ds i) := by
  unfold ixP; simp only [seqOf_tup]; cases atI ds i <;> rfl
theorem zo_ixL : ixP (.lst ds) (.int i) S Q = zIx S Q (atI ds i) := by
  unfold ixP; simp only [seqOf_lst]; cases atI ds i <;> rfl
theorem zo_ixR (h : S a = some (.lst ds)) (q : zIx S Q (atI ds i)) : ixP (.ref a) (.int i) S Q := by
  unfold ixP; simp only [seqOf_ref h]; cases e : atI ds i with
  | none => rw [e] at q; exact q
  | some d => rw [e] at q; exact q
theorem zo_ixP : ixP (.ref a) (.int i) (put S a (.lst ds)) Q = zIx (put S a (.lst ds)) Q (atI ds i) := by
  unfold ixP; simp only [seqOf_put]; cases atI ds i <;> rfl
theorem zIx_of (h : atI ds i = some d) (q : Q d S) : zIx S Q (atI ds i) := by rw [h]; exact q
def zIxS (S : Sto) (Q : DQ) : Option Nat → Prop
  | some c => Q (sgD c) S
  | none => False
theorem zo_ixS {x : Str} : ixP (.str x) (.int i) S Q = (x.length ≤ sizeLine ∧ zIxS S Q (atI x.cps.toList i)) := by
  unfold ixP; simp only; cases atI x.cps.toList i <;> rfl
theorem zIxS_of {x : Str} {c : Nat} (h : atI x.cps.toList i = some c) (q : Q (sgD c) S) : zIxS S Q (atI x.cps.toList i) := by rw [h]; exact q
theorem zo_lenS {x : Str} : lenP [.str x] S Q = (x.length ≤ sizeLine ∧ Q (.int x.length) S) := rfl
theorem zo_lenT : lenP [.tup ds] S Q = Q (.int ds.length) S := rfl
theorem zo_lenL : lenP [.lst ds] S Q = Q (.int ds.length) S := rfl
theorem zo_lenP : lenP [.ref a] (put S a (.lst ds)) Q = Q (.int ds.length) (put S a (.lst ds)) := by
  unfold lenP; simp only [seqOf_put]
theorem zo_lenR (h : S a = some (.lst ds)) (q : Q (.int ds.length) S) : lenP [.ref a] S Q := by
  unfold lenP; simp only [seqOf_ref h]; exact q
theorem zo_abs : absP [.int i] S Q = Q (.int i.natAbs) S := rfl
theorem zo_int : intP [.int i] S Q = Q (.int i) S := rfl
theorem zo_intB {b : Bool} : intP [.bl b] S Q = Q (.int (if b = true then 1 else 0)) S := rfl
theorem zo_tupT : tupleP [.tup ds] S Q = Q (.tup ds) S := rfl
theorem zo_tupL : tupleP [.lst ds] S Q = Q (.tup ds) S := rfl
theorem zo_tupP : tupleP [.ref a] (put S a (.lst ds)) Q = Q (.tup ds) (put S a (.lst ds)) := by
  unfold tupleP; simp only [seqOf_put]
theorem zo_tupR (h : S a = some (.lst ds)) (q : Q (.tup ds) S) : tupleP [.ref a] S Q := by
  unfold tupleP; simp only [seqOf_ref h]; exact q
theorem zo_lstT : listP [.tup ds] S Q = Q (.lst ds) S := rfl
theorem zo_lstL : listP [.lst ds] S Q = Q (.lst ds) S := rfl
theorem zo_lstR (h : S a = some (.lst ds)) (q : Q (.lst ds) S) : listP [.ref a] S Q := by
  unfold listP; simp only [seqOf_ref h]; exact q
theorem zo_lstOT : listOP [.tup ds] S Q = ∀ p, S p = none → Q (.ref p) (put S p (.lst ds)) := rfl
theorem zo_lstOL : listOP [.lst ds] S Q = ∀ p, S p = none → Q (.ref p) (put S p (.lst ds)) := rfl
theorem zo_lstOR (h : S a = some (.lst ds)) (q : ∀ p, S p = none → Q (.ref p) (put S p (.lst ds))) : listOP [.ref a] S Q := by
  unfold listOP; simp only [seqOf_ref h]; exact q
def zJoin (me : ME) (env : DEnv) (Q : DQ) : D → Sto → Prop
  | .str a, S1 => me env S1 fun y S2 => joinP (.str a) y S2 Q
  | _, _ => False
theorem z_join : dJoin m ma env S Q = m env S (zJoin ma env Q) := by
  unfold dJoin; congr 1; funext x S1; cases x <;> rfl
theorem z_join1 {x : Str} : zJoin ma env Q (.str x) S = ma env S (zOp2 joinP (.str x) Q) := rfl
theorem zo_append (h : S a = some (.lst xs)) (z : xs.length < sizeLine) (q : Q .non (put S a (.lst (xs ++ [d])))) : appendP (.ref a) [d] S Q := by
  unfold appendP; simp only [h]; exact ⟨z, q⟩
end
end DL
/-! Sorting: ints, tuples of ints; any length. -/
namespace DL
open PySem PySem.Spec PyProof.Rows L2
section
variable {prog : Program} {w : World} {A : Around} {E : Value → Shared → Prop} {s : Shared}
theorem lex_kat {b : Bool} {Q : Bool → Shared → Prop} : ∀ {xs ys : List Value} {ns ms : List Int} (i : Nat), IntsAre xs ns → IntsAre ys ms → Q (HT.lexLt ns ms) s → PySem.W.KatLex prog w A b (decide (ns.length < ms.length)) Q (xs.zip ys) i s := by
  intro xs ys ns ms i hx
  induction hx generalizing ys ms i with
  | nil =>
    intro hy h
    rw [List.zip_nil_left]
    refine PySem.W.kat_nil ?_
    cases hy with
    | nil => simpa [HT.lexLt_nil_nil] using h
    | cons a t hy => simpa [HT.lexLt_nil_cons] using h
  | @cons p t xs ns hx ih =>
    intro hy h
    cases hy with
    | nil =>
      rw [List.zip_nil_right]
      refine PySem.W.kat_nil ?_
      simpa [HT.lexLt_cons_nil] using h
    | @cons q u ys ms hy =>
      rw [List.zip_cons_cons]
      rw [HT.lexLt_cons] at h
      refine PySem.W.kat_cons (SeqAt.EqAt.int_int p t q u prog w _ _ ?_)
      refine PySem.W.kat_go (fun e1 => ?_) (fun e1 => ?_)
      · have ex : p = q := by simpa using e1
        rw [if_pos ex] at h
        have := ih (ys := ys) (ms := ms) (i + 1) hy h
        refine PySem.W.kat_yes ?_
        simpa using this
      · have ex : ¬ p = q := by simpa using e1
        rw [if_neg ex] at h
        exact PySem.W.kat_no (TS.oneLt_ints _ h)
theorem tups_cmp {vs : List Value} {k : Value → List Int} (hp : ∀ v ∈ vs, TS.TupInts s.heap v (k v)) : SrtO.Cmp prog w A s (PyProof.Rows.tuples' true) (fun p => p.1 ∈ vs) (SrtO.lt2 fun v u => HT.lexLt (k v) (k u)) := by
  intro p q hm hm'
  obtain ⟨a, xs, e, ⟨o, ho, hc, n, hd⟩, i⟩ := hp _ hm
  obtain ⟨a', ys, e', ⟨o', ho', hc', n', hd'⟩, i'⟩ := hp _ hm'
  show wpAny (model prog w) A (PyProof.Rows.keyLt' (PyProof.Rows.tuples' true) p.1 q.1) (fun r s' => s' = s ∧ r = HT.lexLt (k p.1) (k q.1)) (fun _ _ => False) s
  generalize k p.1 = ns at i ⊢
  generalize k q.1 = ms at i' ⊢
  rw [e, e']
  refine PySem.W.kat_lt ho hd ho' hd' ?_
  have e1 : xs.size = ns.length := by rw [← i.length]; simp
  have e2 : ys.size = ms.length := by rw [← i'.length]; simp
  rw [e1, e2]
  exact lex_kat 0 i i' ⟨rfl, rfl⟩
/-- a list or a tuple -/
def SeqIs (h : Heap) (l : Addr) (xs : Array Value) : Prop := h.IsList l xs ∨ IsTup h l xs
theorem collect_seq {l : Addr} {vs : List Value} {Q : List Value → Shared → Prop} (hl : SeqIs s.heap l vs.toArray)
    (h : Q vs { s with heap := (s.heap.push (seqObj "list" #[] 0)).update s.heap.objs.size (Obj.mapSeq (· ++ vs.toArray)) }) (hsz : vs.length ≤ sizeLine) :
    wpAny (model prog w) A (collect (.ref l)) Q E s := by
  rcases hl with hl | hl
  · exact PyProof.Rows.collect_list hl h hsz
  obtain ⟨o, ho, hc, n, hd⟩ := id hl
  unfold collect
  refine wpAny_bind (wpAny_runValue (codeAny_builtin entry_proto_collect' ?_))
  show wpAny _ _ (do again (.builtin "list.__iadd__" ⟨[← newList [], .ref l], []⟩)) _ _ s
  refine wpAny_bind (wpAny_newList (wpAny_pure ⟨Code.quiet_builtin _ (by decide +kernel), codeAny_builtin entry_list_iadd' ?_⟩))
  show wpAny _ _ (Builtin.List.listExtendWith (.ref s.heap.objs.size) (.ref l) (.ref s.heap.objs.size)) _ _ { s with heap := s.heap.push (seqObj "list" #[] 0) }
  unfold Builtin.List.listExtendWith
  have ho' : (s.heap.push (seqObj "list" #[] 0)).get? l = some o := Heap.get?_push_of_some _ ho
  refine wpAny_bind (wpAny_typeOf (T := "tuple") ⟨o, ho', hc⟩ ?_)
  have ht : (Value.type "tuple" == Value.type "tuple") = true := by rfl
  rw [if_pos (by rw [ht]; simp)]
  refine wpAny_bind (listItems_at ho' hd ?_)
  refine wpAny_bind (listItems_at (xs := #[]) (n := 0) (Heap.get?_push_size _ rfl) rfl ?_)
  rw [if_neg (by simp)]
  refine wpAny_bind (listUpdate_at (xs := #[]) (n := 0) (Heap.get?_push_size _ rfl) rfl ?_ (Nat.zero_le _) (by show (#[] ++ vs.toArray).size ≤ sizeLine + 1; simp only [Array.size_append, List.size_toArray, List.length_nil]; omega))
  refine wpAny_pure ?_
  show wpAny (model prog w) A (do
      let o ← load s.heap.objs.size
      match o.data with
      | .seq xs _ => pure xs.toList
      | _ => unsupported "internal:collect") Q E { s with heap := (s.heap.push (seqObj "list" #[] 0)).update s.heap.objs.size (Obj.mapSeq (· ++ vs.toArray)) }
  refine wpAny_bind (wpAny_load (get?_update_seq (Heap.get?_push_size _ rfl) _) ?_)
  show wpAny _ _ (pure ((#[] : Array Value) ++ vs.toArray).toList) Q E _
  rw [show ((#[] : Array Value) ++ vs.toArray).toList = vs by simp]
  exact wpAny_pure h
theorem sorted_ordS {l : Addr} {vs : List Value} {ltv : Value → Value → Bool} {Q : Value → Shared → Prop} (O : SrtO.Swo ltv) (hl : SeqIs s.heap l vs.toArray) (hz : vs.length ≤ sizeLine)
    (hS : 2 ≤ vs.length → ∀ (h₁ : Heap) (a : Addr), h₁.get? a = some (seqObj "list" vs.toArray 0) → (∀ b o, s.heap.get? b = some o → b ≠ a ∧ h₁.get? b = some o) → SrtO.SortableO prog w A.in1.in1 { s with heap := h₁ } a vs ltv)
    (h : ∀ out : List Value, SrtO.Srtd ltv out → SrtO.Stb ltv out vs → Q (.ref (s.heap.objs.size + 1)) { s with heap := sortedAll s.heap vs out.toArray }) :
    wpAny (model prog w) A (call (.builtin "sorted") [.ref l]) Q E s := by
  refine Calls.call_function_entry kind_sorted plain_sorted entry_sorted (args_sorted1 _) ?_
  unfold Builtin.«sorted»
  refine wpAny_bind (m := checkCount "sorted" 1 1 _) (wpAny_pure ?_)
  refine wpAny_bind (collect_seq hl ?_ hz)
  refine wpAny_bind (wpAny_newList ?_ hz)
  have hsz : ((s.heap.push (seqObj "list" #[] 0)).update s.heap.objs.size (Obj.mapSeq (· ++ vs.toArray))).objs.size = s.heap.objs.size + 1 := by
    rw [Heap.size_update, size_push']
  have hoL : (((s.heap.push (seqObj "list" #[] 0)).update s.heap.objs.size (Obj.mapSeq (· ++ vs.toArray))).push (seqObj "list" vs.toArray 0)).get? (s.heap.objs.size + 1) = some (seqObj "list" vs.toArray 0) := by
    rw [← hsz]; exact Heap.get?_push_size _ rfl
  have keep : ∀ b o, s.heap.get? b = some o → b ≠ s.heap.objs.size + 1 ∧ (((s.heap.push (seqObj "list" #[] 0)).update s.heap.objs.size (Obj.mapSeq (· ++ vs.toArray))).push (seqObj "list" vs.toArray 0)).get? b = some o := fun b o q => by
    have hlt : b < s.heap.objs.size := Heap.lt_size q
    refine ⟨Nat.ne_of_lt (Nat.lt_succ_of_lt hlt), Heap.get?_push_of_some _ ?_⟩
    rw [Heap.get?_update_ne _ _ _ _ (Nat.ne_of_lt hlt)]
    exact Heap.get?_push_of_some _ q
  show wpAny _ _ _ _ _ { s with heap := ((s.heap.push (seqObj "list" #[] 0)).update s.heap.objs.size (Obj.mapSeq (· ++ vs.toArray))).push (seqObj "list" vs.toArray 0) }
  rw [hsz]
  refine wpAny_bind (wpAny_holding (wpAny_call_entry slot_list_sort ⟨_, hoL, rfl⟩ entry_list_sort (SrtO.list_sort_ord O hoL hz (fun h2 => hS h2 _ _ hoL keep) fun out hs hb => ⟨_, rfl, ?_⟩) (args_list_sort _)))
  exact wpAny_pure ⟨_, rfl, h out hs hb⟩
theorem firsts_ints {h : Heap} {k : Value → List Int} : ∀ {vs : List Value}, (∀ v ∈ vs, TS.TupInts h v (k v) ∧ k v ≠ []) → ∃ fs : List Value, PySem.W.KatTups h vs fs ∧ fs.length = vs.length ∧ ∀ f ∈ fs, ∃ x t, f = Value.int x t
  | [], _ => ⟨[], PySem.W.KatTups.nil, rfl, fun _ hm => by simp at hm⟩
  | v :: vs, hp => by
    obtain ⟨fs, h1, h2, h3⟩ := firsts_ints (vs := vs) fun v' hm => hp v' (List.mem_cons_of_mem _ hm)
    obtain ⟨⟨a, xs, e, ⟨o, ho, hc, n, hd⟩, i⟩, ne⟩ := hp v (List.mem_cons_self ..)
    obtain ⟨y, ys, ey⟩ : ∃ y ys, xs.toList = y :: ys := by
      cases q : xs.toList with
      | nil =>
        rw [q] at i
        have l := i.length
        rw [List.length_nil] at l
        exact absurd (List.eq_nil_of_length_eq_zero l.symm) ne
      | cons y ys => exact ⟨y, ys, rfl⟩
    obtain ⟨m, t, hy⟩ := i.all y (by rw [ey]; exact List.mem_cons_self ..)
    rw [e]
    refine ⟨y :: fs, PySem.W.KatTups.cons ho hc hd ?_ h1, by rw [List.length_cons, List.length_cons, h2], fun f hm => ?_⟩
    · have z := congrArg (fun l : List Value => l[0]?) ey
      simpa using z
    · rcases List.mem_cons.mp hm with rfl | hm
      · exact ⟨m, t, hy⟩
      · exact h3 f hm
theorem tups_sortableL {a : Addr} {vs : List Value} {k : Value → List Int} (h0 : 0 < vs.length) (hp : ∀ v ∈ vs, TS.TupInts s.heap v (k v) ∧ k v ≠ []) (ha : ∀ o, s.heap.get? a = some o → o.cls ≠ .type "tuple") : SrtO.SortableO prog w A s a vs fun v u => HT.lexLt (k v) (k u) := by
  intro h' keep
  have hp' : ∀ v ∈ vs, TS.TupInts h' v (k v) ∧ k v ≠ [] := fun v hm => ⟨(hp v hm).1.keeps fun b o e c => keep b o (fun z => by subst z; exact ha o e c) e, (hp v hm).2⟩
  obtain ⟨fs, h1, h2, h3⟩ := firsts_ints hp'
  refine ⟨PyProof.Rows.tuples' true, fun Q E hq => ?_, tups_cmp fun v hm => (hp' v hm).1⟩
  refine PySem.W.kat_kind (T := .type "int") h1 (by omega) (fun f hm => ?_) (by rfl) ?_
  · obtain ⟨x, t, rfl⟩ := h3 f hm
    exact PySem.W.Looks.now
  · have e : (Value.type "int" != Value.type "tuple") = true := by first | decide +kernel | rfl | decide
    rw [e]
    exact hq
theorem sorted_tupsL {l : Addr} {vs : List Value} {k : Value → List Int} {Q : Value → Shared → Prop} (hl : SeqIs s.heap l vs.toArray) (hz : vs.length ≤ sizeLine) (hp : ∀ v ∈ vs, TS.TupInts s.heap v (k v) ∧ k v ≠ [])
    (h : ∀ (h' : Heap) (d : Addr) (out : List Value), SrtO.Srtd (fun v u => HT.lexLt (k v) (k u)) out → SrtO.Stb (fun v u => HT.lexLt (k v) (k u)) out vs → (∀ b o, s.heap.get? b = some o → h'.get? b = some o) → s.heap.objs.size ≤ d → (∃ n, h'.get? d = some (seqObj "list" out.toArray n)) → Q (.ref d) { s with heap := h' }) :
    wpAny (model prog w) A (call (.builtin "sorted") [.ref l]) Q E s := by
  refine sorted_ordS (NtL.swo_lexL k) hl hz (fun h2 h₁ a ha kk => ?_) fun out hs hb => ?_
  · refine tups_sortableL (s := { s with heap := h₁ }) (by omega) (fun v hm => ⟨(hp v hm).1.keeps fun b o e _ => (kk b o e).2, (hp v hm).2⟩) fun o e => ?_
    have e' : some o = some (seqObj "list" vs.toArray 0) := e.symm.trans ha
    cases e'
    intro c
    exact absurd (Value.type.inj c) (by decide)
  · exact h _ _ out hs hb (fun b o e => sortedAll_old e) (Nat.le_succ _) (sortedAll_at s.heap vs out.toArray)
end
/-- sorted(xs) of tuples of ints -/
def rSortL (K : PySem.W.Frag) : List V → Hp → VK → Prop := fun vs H Q => ∃ (a : Addr) (xs : List V) (ks : List (List Int)), vs = [V.ref a] ∧ (SqL K H a xs ∨ SqT K H a xs) ∧ xs.length = ks.length ∧ (∀ (i : Nat) x n, xs[i]? = some x → ks[i]? = some n → TupI K H x n) ∧ (∀ n ∈ ks, n ≠ []) ∧
  ∀ (k : V → List Int) ys p, xs.map k = ks → SrtO.Srtd (fun v u => HT.lexLt (k v) (k u)) ys → ys.Perm xs → H p = none → Q (.ref p) (upd H p (.lst ys))
def foreV : V → Value
  | .ref a => .ref a
  | _ => .none
theorem cr_sortL {X : Cx} : CallR X (.builtin "sorted") (rSortL X.K) := by
  intro pins s σ H vs us Q I r h
  obtain ⟨a, xs, ks, rfl, hs, hl2, hx, hne, q⟩ := h
  obtain ⟨its, rv, hl, hz⟩ : ∃ its : List Value, Vals xs its ∧ SeqIs s.heap a its.toArray ∧ xs.length ≤ sizeLine := by
    rcases hs with hs | hs
    · obtain ⟨its, rv, hl, hz⟩ := I.list hs
      exact ⟨its, rv, .inl hl.isList, hz⟩
    · obtain ⟨its, rv, hl, hz⟩ := I.tuple hs
      exact ⟨its, rv, .inr hl, hz⟩
  obtain ⟨u, rfl, ru⟩ := vals1 r
  obtain rfl : u = Value.ref a := ru
  have hx' : ∀ x ∈ xs, ∃ n, TupI X.K H x n ∧ n ∈ ks := fun x m => by
    obtain ⟨i, hi⟩ := List.mem_iff_getElem?.mp m
    have hlt : i < ks.length := by
      rw [← hl2]
      exact (List.getElem?_eq_some_iff.mp hi).1
    exact ⟨ks[i], hx i x _ hi (List.getElem?_eq_getElem hlt), List.getElem_mem hlt⟩
  obtain ⟨e1, e2⟩ := refs_back rv fun x m => by
    obtain ⟨n, ⟨t, e, _⟩, _⟩ := hx' x m
    exact ⟨t, e⟩
  let k : V → List Int := fun v => TS.intsOf s.heap (foreV v)
  have hk : ∀ x n, TupI X.K H x n → k x = n := fun x n ⟨t, e, ht⟩ => by
    subst e
    exact (tupI_raw I ht).ints
  have hks : xs.map k = ks := by
    refine List.ext_getElem? fun i => ?_
    rw [List.getElem?_map]
    cases e : xs[i]? with
    | none =>
      have : ¬ i < ks.length := fun h => by
        rw [← hl2] at h
        rw [List.getElem?_eq_getElem h] at e; cases e
      rw [List.getElem?_eq_none (by omega)]; rfl
    | some x =>
      have hlt : i < ks.length := by
        rw [← hl2]
        exact (List.getElem?_eq_some_iff.mp e).1
      rw [List.getElem?_eq_getElem hlt]
      show some (k x) = _
      rw [hk x _ (hx i x _ e (List.getElem?_eq_getElem hlt))]
  have fb : ∀ u ∈ its, foreV (backV u) = u := fun u hu => by
    obtain ⟨t, rfl⟩ := e2 u hu
    rfl
  refine sorted_tupsL (k := fun u => TS.intsOf s.heap u) hl (by rw [← rv.length]; exact hz) (fun v hv => ?_) fun h' d out h1 h2 kp hd hn => ?_
  · obtain ⟨t, rfl⟩ := e2 v hv
    have hm : V.ref t ∈ xs := by rw [e1]; exact List.mem_map.mpr ⟨_, hv, rfl⟩
    obtain ⟨n, ⟨t', e, ht⟩, hn⟩ := hx' _ hm
    cases e
    have ti := tupI_raw I ht
    rw [ti.ints]
    exact ⟨ti, hne n hn⟩
  · have h3 : ∀ u ∈ out, ∃ a, u = Value.ref a := fun u hu => e2 u (h2.perm.mem_iff.mp hu)
    obtain ⟨n, hn⟩ := hn
    have hb : (out.map backV).Perm xs := by
      rw [e1]
      exact h2.perm.map backV
    refine ⟨.ref d, upd H d (.lst (out.map backV)), I.laid (t' := s.toks) kp hd ⟨?_, out, n, vals_back h3, hn⟩, rfl, q k _ d hks ?_ hb (I.hok.fresh hd)⟩
    · rw [hb.length_eq]
      exact hz
    · rw [SrtO.Srtd, List.pairwise_map]
      refine List.Pairwise.imp_of_mem (fun {u v} hu hv h => ?_) h1
      show HT.lexLt (k (backV v)) (k (backV u)) = false
      show HT.lexLt (TS.intsOf s.heap (foreV (backV v))) (TS.intsOf s.heap (foreV (backV u))) = false
      rw [fb u (h2.perm.mem_iff.mp hu), fb v (h2.perm.mem_iff.mp hv)]
      exact h
/-- sorted(xs) of ints -/
def rSortN (K : PySem.W.Frag) : List V → Hp → VK → Prop := fun vs H Q => ∃ (a : Addr) (ns : List Int), vs = [V.ref a] ∧ (SqL K H a (ns.map V.int) ∨ SqT K H a (ns.map V.int)) ∧
  ∀ (ns' : List Int) (p : Addr), ns'.Perm ns → ns'.Pairwise (· ≤ ·) → H p = none → Q (.ref p) (upd H p (.lst (ns'.map V.int)))
theorem cr_sortN {X : Cx} : CallR X (.builtin "sorted") (rSortN X.K) := by
  intro pins s σ H vs us Q I r h
  obtain ⟨a, ns, rfl, hs, q⟩ := h
  obtain ⟨its, rv, hl, hz⟩ : ∃ its : List Value, Vals (ns.map V.int) its ∧ SeqIs s.heap a its.toArray ∧ (ns.map V.int).length ≤ sizeLine := by
    rcases hs with hs | hs
    · obtain ⟨its, rv, hl, hz⟩ := I.list hs
      exact ⟨its, rv, .inl hl.isList, hz⟩
    · obtain ⟨its, rv, hl, hz⟩ := I.tuple hs
      exact ⟨its, rv, .inr hl, hz⟩
  rw [Vals.ref1 r]
  have hi := rv.ints
  refine sorted_ordS SrtO.swo_int hl (by rw [← rv.length]; exact hz) (fun h2 h₁ a' _ _ => SrtO.ints_sortable hi h2) fun out h1 h2 => ?_
  obtain ⟨k1, k2, k3⟩ := SrtO.ints_out hi h1 h2
  obtain ⟨ep, he'⟩ := PyProof.Rows.sortedAll_at s.heap its out.toArray
  have hlen : ((out.map SrtO.iv).map V.int).length ≤ sizeLine := by
    rw [List.length_map, k2.length_eq]
    rw [List.length_map] at hz
    exact hz
  exact ⟨.ref _, upd H (s.heap.objs.size + 1) (.lst ((out.map SrtO.iv).map V.int)), I.laid (t' := s.toks) (fun _ _ => PyProof.Rows.sortedAll_old) (Nat.le_succ _) ⟨hlen, out, ep, vals_of_ints k1, he'⟩, rfl, q _ _ k2 k3 (I.hok.fresh (Nat.le_succ _))⟩
/-! ### over trees -/
def tupI (ns : List Int) : D := .tup (ns.map D.int)
theorem lex_tri : ∀ {xs ys : List Int}, HT.lexLt xs ys = false → HT.lexLt ys xs = false → xs = ys
  | [], [], _, _ => rfl
  | [], y :: ys, h, _ => by rw [HT.lexLt_nil_cons] at h; cases h
  | x :: xs, [], _, h => by rw [HT.lexLt_nil_cons] at h; cases h
  | x :: xs, y :: ys, h, h' => by
    rw [HT.lexLt_cons] at h h'
    by_cases e : x = y
    · subst e
      rw [if_pos rfl] at h h'
      rw [lex_tri h h']
    · rw [if_neg e] at h
      rw [if_neg (Ne.symm e)] at h'
      have a := of_decide_eq_false h
      have b := of_decide_eq_false h'
      omega
theorem srt_uniq : ∀ {l m : List (List Int)}, SrtO.Srtd HT.lexLt l → SrtO.Srtd HT.lexLt m → l.Perm m → l = m
  | [], m, _, _, p => (List.Perm.nil_eq p)
  | x :: l, [], _, _, p => absurd p.length_eq (by simp)
  | x :: l, y :: m, hl, hm, p => by
    have h1 : HT.lexLt x y = false := by
      rcases List.mem_cons.mp (p.mem_iff.mp (List.mem_cons_self (a := x) (l := l))) with e | hx
      · rw [e]; exact (NtL.swo_lexL (fun n : List Int => n)).refl y
      · exact SrtO.srtd_head hm x hx
    have h2 : HT.lexLt y x = false := by
      rcases List.mem_cons.mp (p.mem_iff.mpr (List.mem_cons_self (a := y) (l := m))) with e | hy
      · rw [e]; exact (NtL.swo_lexL (fun n : List Int => n)).refl x
      · exact SrtO.srtd_head hl y hy
    have e := lex_tri h1 h2
    subst e
    rw [srt_uniq (List.pairwise_cons.mp hl).2 (List.pairwise_cons.mp hm).2 p.cons_inv]
/-- the tuples in order -/
def tsort (ks : List (List Int)) : List (List Int) := ks.mergeSort fun a b => !HT.lexLt b a
theorem tsort_perm (ks : List (List Int)) : (tsort ks).Perm ks := List.mergeSort_perm _ _
theorem tsort_srtd (ks : List (List Int)) : SrtO.Srtd HT.lexLt (tsort ks) := by
  have h := List.pairwise_mergeSort (le := fun a b : List Int => !HT.lexLt b a) (fun a b c h1 h2 => by
    simp only [Bool.not_eq_true'] at h1 h2 ⊢
    exact NtL.lex_tr a b c h1 h2) (fun a b => by
    cases h : HT.lexLt b a with
    | false => rfl
    | true => rw [NtL.lex_asym _ _ h]; rfl) ks
  exact h.imp fun {a b} h => by simpa using h
theorem tsort_of {l ks : List (List Int)} (h : SrtO.Srtd HT.lexLt l) (p : l.Perm ks) : l = tsort ks := srt_uniq h (tsort_srtd ks) (p.trans (tsort_perm ks).symm)
def isort (ns : List Int) : List Int := ns.mergeSort fun a b => decide (a ≤ b)
theorem isort_perm (ns : List Int) : (isort ns).Perm ns := List.mergeSort_perm _ _
theorem isort_srtd (ns : List Int) : (isort ns).Pairwise (· ≤ ·) := by
  have h := List.pairwise_mergeSort (le := fun a b : Int => decide (a ≤ b)) (fun a b c h1 h2 => by
    simp only [decide_eq_true_eq] at h1 h2 ⊢; omega) (fun a b => by
    simp only [Bool.or_eq_true, decide_eq_true_eq]; omega) ns
  exact h.imp fun {a b} h => by simpa using h
theorem int_srt_uniq : ∀ {l m : List Int}, l.Pairwise (· ≤ ·) → m.Pairwise (· ≤ ·) → l.Perm m → l = m
  | [], m, _, _, p => (List.Perm.nil_eq p)
  | x :: l, [], _, _, p => absurd p.length_eq (by simp)
  | x :: l, y :: m, hl, hm, p => by
    have h1 : y ≤ x := by
      rcases List.mem_cons.mp (p.mem_iff.mp (List.mem_cons_self (a := x) (l := l))) with e | hx
      · omega
      · exact (List.pairwise_cons.mp hm).1 x hx
    have h2 : x ≤ y := by
      rcases List.mem_cons.mp (p.mem_iff.mpr (List.mem_cons_self (a := y) (l := m))) with e | hy
      · omega
      · exact (List.pairwise_cons.mp hl).1 y hy
    have e : x = y := by omega
    subst e
    rw [int_srt_uniq (List.pairwise_cons.mp hl).2 (List.pairwise_cons.mp hm).2 p.cons_inv]
theorem isort_of {l ns : List Int} (h : l.Pairwise (· ≤ ·)) (p : l.Perm ns) : l = isort ns := int_srt_uniq h (isort_srtd ns) (p.trans (isort_perm ns).symm)
def sortQ (xs : List D) (Q : List D → Prop) : Prop := (∃ ns : List Int, xs = ns.map .int ∧ Q ((isort ns).map .int)) ∨ (∃ ks : List (List Int), xs = ks.map tupI ∧ (∀ n ∈ ks, n ≠ []) ∧ Q ((tsort ks).map tupI))
def sortP : DN := fun ds S Q => match ds with
  | [d] => match seqOf S d with
    | some xs => sortQ xs fun ys => Q (.lst ys) S
    | none => False
  | _ => False
def sortOP : DN := fun ds S Q => match ds with
  | [d] => match seqOf S d with
    | some xs => sortQ xs fun ys => ∀ p, S p = none → Q (.ref p) (put S p (.lst ys))
    | none => False
  | _ => False
abbrev rSortA (K : PySem.W.Frag) : List V → Hp → VK → Prop := fun xs H Q => rSortN K xs H Q ∨ rSortL K xs H Q
theorem cr_sortA {X : Cx} : CallR X (.builtin "sorted") (rSortA X.K) := fun pins s σ H vs us Q I r h => h.elim (cr_sortN pins s σ H vs us Q I r) (cr_sortL pins s σ H vs us Q I r)
theorem rep_tupI {K : Kz} {S : Sto} {H : Hp} {n : List Int} {v : V} (r : Rep K S H (tupI n) v) : TupI K.K H v n ∧ n.length ≤ sizeLine := by
  unfold tupI at r
  cases r with
  | @tup a us _ sa za ra =>
    have e := ints_read ra (intsOf_map n)
    subst e
    exact ⟨⟨a, rfl, sa.sq⟩, by rw [List.length_map] at za; exact za⟩
theorem rep_ints {K : Kz} {S : Sto} {H : Hp} : ∀ ns : List Int, RepL K S H (ns.map D.int) (ns.map V.int)
  | [] => .nil
  | n :: ns => .cons (.int n) (rep_ints ns)
theorem repL_map {K : Kz} {S : Sto} {H : Hp} {k : V → D} : ∀ {ys : List V}, (∀ y ∈ ys, Rep K S H (k y) y) → RepL K S H (ys.map k) ys
  | [], _ => .nil
  | y :: ys, h => .cons (h y List.mem_cons_self) (repL_map fun z hz => h z (List.mem_cons_of_mem _ hz))
theorem sortA_of {K : Kz} {S : Sto} {H : Hp} {a : Addr} {us : List V} {xs : List D} {Qs : List D → Prop} {Q : VK} (hs : SqL K.K H a us ∨ SqT K.K H a us) (ra : RepL K S H xs us) (q : sortQ xs Qs)
    (f : ∀ (ys : List D) (ws : List V) (p : Addr), RepL K S H ys ws → ws.length = us.length → H p = none → Qs ys → Q (.ref p) (upd H p (.lst ws))) : rSortA K.K [.ref a] H Q := by
  rcases q with ⟨ns, rfl, q⟩ | ⟨ks, rfl, hne, q⟩
  · have e := ints_read ra (intsOf_map ns)
    subst e
    refine .inl ⟨a, ns, rfl, hs, fun ns' p h1 h2 n => ?_⟩
    have e := isort_of h2 h1
    subst e
    exact f _ _ p (rep_ints _) (by rw [List.length_map, List.length_map, h1.length_eq]) n q
  · have hl : us.length = ks.length := by rw [← ra.length, List.length_map]
    have hx : ∀ (i : Nat) x n, us[i]? = some x → ks[i]? = some n → TupI K.K H x n ∧ n.length ≤ sizeLine := fun i x n h1 h2 => by
      obtain ⟨d, hd, r⟩ := ra.get' h1
      rw [List.getElem?_map, h2] at hd
      cases hd
      exact rep_tupI r
    refine .inr ⟨a, us, ks, rfl, hs, hl, fun i x n h1 h2 => (hx i x n h1 h2).1, hne, fun k ys p hk h1 h2 n => ?_⟩
    have hy : ∀ y ∈ ys, Rep K S H (tupI (k y)) y := fun y m => by
      obtain ⟨i, hi⟩ := List.mem_iff_getElem?.mp (h2.mem_iff.mp m)
      have e : ks[i]? = some (k y) := by rw [← hk, List.getElem?_map, hi]; rfl
      obtain ⟨d, hd, r⟩ := ra.get' hi
      rw [List.getElem?_map, e] at hd
      cases hd
      exact r
    have e : (ys.map k) = tsort ks := by
      refine tsort_of ?_ (by rw [← hk]; exact h2.map k)
      rw [SrtO.Srtd, List.pairwise_map]
      exact h1
    refine f _ _ p ?_ h2.length_eq n q
    rw [← e, List.map_map]
    exact repL_map hy
theorem cad_sort {K : Kz} : CallD K (rSortA K.K) sortP := by
  intro S H ds vs Qd Q R r q f
  unfold sortP at q
  split at q
  · rename_i d
    obtain ⟨v, rfl, rv⟩ := r.single
    cases hs : seqOf S d with
    | none => simp only [hs] at q
    | some xs =>
      simp only [hs] at q
      obtain ⟨a, us, rfl, sa, za, ra⟩ := seq_read R rv hs
      refine sortA_of sa ra q fun ys ws p rr hl n q => f.lst R n (by rw [hl]; exact za) rr q
  · exact q.elim
theorem cad_sortO {K : Kz} : CallD K (rSortA K.K) sortOP := by
  intro S H ds vs Qd Q R r q f
  unfold sortOP at q
  split at q
  · rename_i d
    obtain ⟨v, rfl, rv⟩ := r.single
    cases hs : seqOf S d with
    | none => simp only [hs] at q
    | some xs =>
      simp only [hs] at q
      obtain ⟨a, us, rfl, sa, za, ra⟩ := seq_read R rv hs
      refine sortA_of sa ra q fun ys ws p rr hl n q => f.own R n (by rw [hl]; exact za) rr q
  · exact q.elim
theorem bt_sorted : bootBuiltins "sorted" = some (.builtin "sorted") := by decide +kernel
/-- tuples of ints compared -/
def ltTP : D2 := fun x y S Q => ∃ ns ms : List Int, x = tupI ns ∧ y = tupI ms ∧ Q (.bl (HT.lexLt ns ms)) S
theorem opd_ltT {K : Kz} : OpD K (rLtT K.K) ltTP := by
  intro S H x y v w Qd Q R rx ry q f
  obtain ⟨ns, ms, rfl, rfl, q⟩ := q
  obtain ⟨⟨a, rfl, ha⟩, _⟩ := rep_tupI rx
  obtain ⟨⟨b, rfl, hb⟩, _⟩ := rep_tupI ry
  exact ⟨a, b, ns, ms, rfl, rfl, ha, hb, f.here R (.bl _) q⟩
theorem cd_ltT {X : Cx} {B : Bs} {k : Nat} (m : Amb X.A k) : CmpD X B .Lt ltTP := ⟨_, op_ltT (by have := m.u64; omega), opd_ltT⟩
/-- repr of a list that may still be changed -/
def reprRP : DN := fun ds S Q => match ds with
  | [.ref a] => match S a with
    | some (.lst xs) => Shows (.lst xs) ∧ Q (.str (shown (.lst xs))) S
    | _ => False
  | _ => False
theorem cad_reprR {K : Kz} : CallD K (rRepr K.K) reprRP := by
  intro S H ds vs Qd Q R r q f
  unfold reprRP at q
  split at q
  · rename_i a
    obtain ⟨v, rfl, rv⟩ := r.single
    cases rv
    split at q
    · rename_i xs hs
      obtain ⟨us, hu, z, rr⟩ := R.get a _ hs
      obtain ⟨sh, q⟩ := q
      have pl : plainAll xs = true := sh.plain
      exact ⟨.ref a, py (.lst xs), rfl, .lst (.inl (.inl hu)) (RepL.dp _ _ pl rr), sh.show_, noDict_py (.lst xs), sh.deep, sh.len, f.here R (.str _) q⟩
    · exact q.elim
  · exact q.elim
theorem reprR_do {S : Sto} {a : Addr} {xs : List D} {Q : DQ} (h : S a = some (.lst xs)) (sh : Shows (.lst xs)) (q : Q (.str (shown (.lst xs))) S) : reprRP [.ref a] S Q := by
  unfold reprRP; simp only [h]; exact ⟨sh, q⟩
theorem repr_do {S : Sto} {d : D} {Q : DQ} (sh : Shows d) (q : Q (.str (shown d)) S) : reprP [d] S Q := ⟨sh, q⟩
theorem atI_last {α : Type} {xs : List α} {x : α} : atI (xs ++ [x]) (-1) = some x := by
  unfold atI ixN
  have e : (xs ++ [x]).length = xs.length + 1 := by simp
  rw [if_neg (by decide)]
  simp only [e]
  rw [if_pos (by omega)]
  show (some ((-1 : Int) + ((xs.length + 1 : Nat) : Int)).toNat).bind (fun j => (xs ++ [x])[j]?) = _
  have : ((-1 : Int) + ((xs.length + 1 : Nat) : Int)).toNat = xs.length := by omega
  rw [this]
  simp
end DL
/-! Cells: triples of ints. -/
namespace DL
open PySem PySem.Spec PyProof.Rows L2
abbrev C3 := Int × Int × Int
def cD (c : C3) : D := .tup [.int c.1, .int c.2.1, .int c.2.2]
def cL (c : C3) : List Int := [c.1, c.2.1, c.2.2]
theorem cD_eq (c : C3) : cD c = tupI (cL c) := rfl
theorem cD_inj {a b : C3} (h : cD a = cD b) : a = b := by
  obtain ⟨x, y, z⟩ := a
  obtain ⟨u, v, w⟩ := b
  unfold cD at h
  simp at h
  simp [h]
theorem cL_inj {a b : C3} (h : cL a = cL b) : a = b := by
  obtain ⟨x, y, z⟩ := a
  obtain ⟨u, v, w⟩ := b
  unfold cL at h
  simp at h
  simp [h]
/-- the coordinate on an axis -/
def cAt (c : C3) (k : Int) : Int := if k = 0 then c.1 else if k = 1 then c.2.1 else c.2.2
theorem cD_at0 {c : C3} : atI [D.int c.1, .int c.2.1, .int c.2.2] 0 = some (.int c.1) := atI_0
theorem cD_at1 {c : C3} : atI [D.int c.1, .int c.2.1, .int c.2.2] 1 = some (.int c.2.1) := atI_1
theorem cD_at2 {c : C3} : atI [D.int c.1, .int c.2.1, .int c.2.2] 2 = some (.int c.2.2) := atI_2
theorem cD_ix {c : C3} {k : Int} {S : Sto} {Q : DQ} (h0 : 0 ≤ k) (h3 : k < 3) (q : Q (.int (cAt c k)) S) : ixP (cD c) (.int k) S Q := by
  unfold cD
  rw [zo_ixT]
  obtain rfl | rfl | rfl : k = 0 ∨ k = 1 ∨ k = 2 := by omega
  · rw [atI_0]; exact q
  · rw [atI_1]; exact q
  · rw [atI_2]; exact q
theorem small_cell {c : C3} (h : ∀ k, -(2 ^ 60) < cAt c k ∧ cAt c k < 2 ^ 60) : Small 1 198 (cD c) := by
  have h0 := h 0
  have h1 := h 1
  have h2 := h 2
  have := small_tup (m := 3) (xs := [D.int c.1, .int c.2.1, .int c.2.2]) (k := 0) (n := 63) (Nat.le_refl _) (fun x hx => by
    simp only [List.mem_cons, List.not_mem_nil, or_false] at hx
    rcases hx with rfl | rfl | rfl
    · exact small_int h0.1 h0.2
    · exact small_int h1.1 h1.2
    · exact small_int h2.1 h2.2)
  exact this
/-- |a - b|, all coordinates -/
def dist (a b : C3) : Nat := (a.1 - b.1).natAbs + (a.2.1 - b.2.1).natAbs + (a.2.2 - b.2.2).natAbs
def besideC (c : C3) : List C3 := [(c.1 - 1, c.2.1, c.2.2), (c.1, c.2.1 - 1, c.2.2), (c.1, c.2.1, c.2.2 - 1), (c.1, c.2.1, c.2.2 + 1), (c.1, c.2.1 + 1, c.2.2), (c.1 + 1, c.2.1, c.2.2)]
theorem mem_besideC {a b : C3} : b ∈ besideC a ↔ dist a b = 1 := by
  obtain ⟨x, y, z⟩ := a
  obtain ⟨u, v, w⟩ := b
  unfold besideC dist
  simp only [List.mem_cons, List.not_mem_nil, or_false, Prod.mk.injEq]
  omega
def addC (o c : C3) : C3 := (c.1 + o.1, c.2.1 + o.2.1, c.2.2 + o.2.2)
def cLt (a b : C3) : Bool := HT.lexLt (cL a) (cL b)
theorem cLt_iff {a b : C3} : cLt a b = true ↔ a.1 < b.1 ∨ (a.1 = b.1 ∧ (a.2.1 < b.2.1 ∨ (a.2.1 = b.2.1 ∧ a.2.2 < b.2.2))) := by
  unfold cLt cL
  simp only [HT.lexLt_cons, HT.lexLt_nil_nil]
  split
  · split
    · split
      · simp; omega
      · simp; omega
    · simp; omega
  · simp; omega
/-- ascending -/
def csort (cs : List C3) : List C3 := cs.mergeSort fun a b => !cLt b a
theorem csort_perm (cs : List C3) : (csort cs).Perm cs := List.mergeSort_perm _ _
theorem csort_srtd (cs : List C3) : SrtO.Srtd cLt (csort cs) := by
  have h := List.pairwise_mergeSort (le := fun a b : C3 => !cLt b a) (fun a b c h1 h2 => by
    simp only [Bool.not_eq_true'] at h1 h2 ⊢
    exact NtL.lex_tr _ _ _ h1 h2) (fun a b => by
    cases h : cLt b a with
    | false => rfl
    | true => rw [show cLt a b = false from NtL.lex_asym _ _ h]; rfl) cs
  exact h.imp fun {a b} h => by simpa using h
theorem tsort_cells (cs : List C3) : tsort (cs.map cL) = (csort cs).map cL := by
  symm
  refine tsort_of ?_ ((csort_perm cs).map cL)
  rw [SrtO.Srtd, List.pairwise_map]
  exact csort_srtd cs
/-- in order and no two alike -/
def Asc (cs : List C3) : Prop := cs.Pairwise fun a b => cLt a b = true
theorem csort_uniq {l m : List C3} (h : SrtO.Srtd cLt l) (p : l.Perm m) : l = csort m := by
  have h1 : (l.map cL) = tsort (m.map cL) := tsort_of (by rw [SrtO.Srtd, List.pairwise_map]; exact h) (p.map cL)
  rw [tsort_cells] at h1
  exact (List.map_inj_right fun a b e => cL_inj e).mp h1
theorem cLt_asym {a b : C3} (h : cLt a b = true) : cLt b a = false := NtL.lex_asym _ _ h
theorem cLt_irr {a : C3} : cLt a a = false := by
  cases h : cLt a a with
  | false => rfl
  | true => have := cLt_asym h; rw [h] at this; cases this
theorem cLt_tri {a b : C3} (h : cLt a b = false) (h' : cLt b a = false) : a = b := cL_inj (lex_tri h h')
theorem Asc.srtd {l : List C3} (h : Asc l) : SrtO.Srtd cLt l := h.imp fun {a b} h => cLt_asym h
theorem Asc.nodup {l : List C3} (h : Asc l) : l.Nodup := h.imp fun {a b} h e => by subst e; rw [cLt_irr] at h; cases h
/-- a list or a tuple of cells -/
def cellsD (d : D) (cs : List C3) : Prop := d = .tup (cs.map cD) ∨ d = .lst (cs.map cD)
theorem cellsD_seq {d : D} {cs : List C3} (h : cellsD d cs) (S : Sto) : seqOf S d = some (cs.map cD) := by
  rcases h with rfl | rfl <;> rfl
theorem z_wSeq_cells {d : D} {cs : List C3} {S : Sto} {Q : List D → (Sto → Prop) → Sto → Prop} (h : cellsD d cs) (q : Q (cs.map cD) okT S) : zwSeq Q d S := by
  rcases h with rfl | rfl <;> exact q
theorem upTo3 : DL.upTo 0 (3 : Int).toNat = [D.int 0, .int 1, .int 2] := rfl
/-- [f(k) for k in range(3)] -/
theorem lc_axes {i : Nat} {te : ME} {ok : Sto → Prop} {env0 : DEnv} {Q : List D → Sto → Prop} (f : Int → D) {S : Sto} (ho : ok S) (h : ∀ k : Int, 0 ≤ k → k < 3 → ∀ Q : DQ, Q (f k) S → te (env0.set i (some (.int k))) S Q) (q : Q [f 0, f 1, f 2] S) :
    lcR (dgName i) dYes te ok env0 Q (DL.upTo 0 (Int.toNat 3)) [] S := by
  rw [upTo3]
  refine lc_map (fun d => match d with
    | .int k => f k
    | _ => .non) ho _ _ (fun d hd Q q => ?_) q
  simp only [List.mem_cons, List.not_mem_nil, or_false] at hd
  rcases hd with rfl | rfl | rfl
  · exact h 0 (by decide) (by decide) Q q
  · exact h 1 (by decide) (by decide) Q q
  · exact h 2 (by decide) (by decide) Q q
/-- [f(c) for c in cells] -/
theorem lc_cells {i : Nat} {te : ME} {ok : Sto → Prop} {env0 : DEnv} {Q : List D → Sto → Prop} (f : C3 → D) {S : Sto} {cs : List C3} (ho : ok S) (h : ∀ c ∈ cs, ∀ Q : DQ, Q (f c) S → te (env0.set i (some (cD c))) S Q) (q : Q (cs.map f) S) :
    lcR (dgName i) dYes te ok env0 Q (cs.map cD) [] S := by
  have g : ∀ (cs : List C3) (acc : List D), (∀ c ∈ cs, ∀ Q : DQ, Q (f c) S → te (env0.set i (some (cD c))) S Q) → Q (acc ++ cs.map f) S → lcR (dgName i) dYes te ok env0 Q (cs.map cD) acc S := by
    intro cs
    induction cs with
    | nil => intro acc _ q; exact ⟨ho, by rw [List.map_nil, List.append_nil] at q; exact q⟩
    | cons c cs ih =>
      intro acc h q
      refine ⟨ho, h c List.mem_cons_self _ ?_⟩
      refine ih _ (fun x hx => h x (List.mem_cons_of_mem _ hx)) ?_
      rw [List.append_assoc]
      exact q
  exact g cs [] h q
theorem int_ints {f : C3 → Int} {cs : List C3} : intsOf (cs.map fun c => D.int (f c)) = some (cs.map f) := by
  have e : (cs.map fun c => D.int (f c)) = (cs.map f).map D.int := by rw [List.map_map]; rfl
  rw [e, intsOf_map]
theorem min_do {f : C3 → Int} {cs : List C3} {S : Sto} {Q : DQ} (ne : cs ≠ []) (q : ∀ m, (∃ c ∈ cs, f c = m) → (∀ c ∈ cs, m ≤ f c) → Q (.int m) S) : minP [.lst (cs.map fun c => D.int (f c))] S Q := by
  unfold minP
  simp only [lstOf_lst, Option.bind, int_ints]
  refine ⟨fun e => ne (List.map_eq_nil_iff.mp e), fun m hm h => q m (List.mem_map.mp hm) fun c hc => h _ (List.mem_map.mpr ⟨c, hc, rfl⟩)⟩
theorem max_do {f : C3 → Int} {cs : List C3} {S : Sto} {Q : DQ} (ne : cs ≠ []) (q : ∀ m, (∃ c ∈ cs, f c = m) → (∀ c ∈ cs, f c ≤ m) → Q (.int m) S) : maxP [.lst (cs.map fun c => D.int (f c))] S Q := by
  unfold maxP
  simp only [lstOf_lst, Option.bind, int_ints]
  refine ⟨fun e => ne (List.map_eq_nil_iff.mp e), fun m hm h => q m (List.mem_map.mp hm) fun c hc => h _ (List.mem_map.mpr ⟨c, hc, rfl⟩)⟩
theorem isi_yes {d : D} {S : Sto} {T : String} {Q : DQ} (h : tyName S d = some T) (k : knownTy T = true) (q : Q (.bl true) S) : isiP [d, .ty T] S Q :=
  isi_of h k (by unfold subTy; rw [beq_self_eq_true, Bool.true_or]; exact q)
theorem isi_no {d : D} {S : Sto} {T y : String} {Q : DQ} (h : tyName S d = some y) (k : knownTy T = true) (n : subTy y T = false) (q : Q (.bl false) S) : isiP [d, .ty T] S Q :=
  isi_of h k (by rw [n]; exact q)
theorem ty_ref {S : Sto} {p : Addr} {xs : List D} (h : S p = some (.lst xs)) : tyName S (.ref p) = some "list" := by unfold tyName; simp only [h]
theorem upTo_get {lo : Int} {n k : Nat} {d : D} (h : (DL.upTo lo n)[k]? = some d) : d = .int (lo + k) ∧ k < n := by
  unfold DL.upTo at h
  rw [List.getElem?_map] at h
  by_cases e : k < n
  · rw [List.getElem?_range e] at h
    cases h
    exact ⟨rfl, e⟩
  · rw [List.getElem?_eq_none (by rw [List.length_range]; omega)] at h
    cases h
/-- reading an item -/
theorem zIx_nat {ds : List D} {i : Int} {S : Sto} {Q : DQ} {d : D} {k : Nat} (hi : i = k) (h : ds[k]? = some d) (q : Q d S) : zIx S Q (atI ds i) := by
  subst hi
  exact zIx_of (by rw [atI_nat' (Int.natCast_nonneg k)]; exact h) q
theorem zIte_not {p q : Prop} {b : Bool} : zIte p q (!b) = zIte q p b := by cases b <;> rfl
theorem Deck.put {S : Sto} {a p : Addr} {o : O} (h : Deck S a) (ne : p ≠ a) : Deck (DL.put S p o) a := by
  obtain ⟨dk, h1, h2⟩ := h
  exact ⟨dk, by rw [put_ne ne.symm]; exact h1, h2⟩
theorem cellsD_tup {cs : List C3} : cellsD (.tup (cs.map cD)) cs := .inl rfl
theorem cellsD_lst {cs : List C3} : cellsD (.lst (cs.map cD)) cs := .inr rfl
theorem isort_ends {ns : List Int} (ne : ns ≠ []) : ∃ lo hi r r', isort ns = lo :: r ∧ isort ns = r' ++ [hi] ∧ (lo ∈ ns ∧ ∀ x ∈ ns, lo ≤ x) ∧ (hi ∈ ns ∧ ∀ x ∈ ns, x ≤ hi) := by
  have hp := isort_perm ns
  have hs := isort_srtd ns
  generalize isort ns = l at hp hs ⊢
  have ne' : l ≠ [] := fun e => by subst e; exact ne (List.Perm.nil_eq hp).symm
  obtain ⟨lo, r, rfl⟩ := List.exists_cons_of_ne_nil ne'
  have el := (List.dropLast_concat_getLast ne').symm
  refine ⟨lo, _, r, _, rfl, el, ⟨hp.mem_iff.mp (by simp), fun x hx => ?_⟩, ⟨hp.mem_iff.mp (List.getLast_mem ne'), fun x hx => ?_⟩⟩
  · rcases List.mem_cons.mp (hp.mem_iff.mpr hx) with rfl | h
    · exact Int.le_refl _
    · exact (List.pairwise_cons.mp hs).1 x h
  · have hx' := hp.mem_iff.mpr hx
    rw [el] at hx' hs
    rcases List.mem_append.mp hx' with h | h
    · exact (List.pairwise_append.mp hs).2.2 x h _ (by simp)
    · rw [List.mem_singleton.mp h]; exact Int.le_refl _
/-! comprehensions over a written list, turn by turn -/
def zLcN (i : Nat) (te : ME) (ok : Sto → Prop) (env0 : DEnv) (Q : List D → Sto → Prop) (ds acc : List D) (y : D) (S3 : Sto) : Prop := lcR (dgName i) dYes te ok env0 Q ds (acc ++ [y]) S3
theorem z_lcCons {i : Nat} {te : ME} {ok : Sto → Prop} {env0 : DEnv} {Q : List D → Sto → Prop} {d : D} {ds acc : List D} {S : Sto} :
    lcR (dgName i) dYes te ok env0 Q (d :: ds) acc S = (ok S ∧ te (env0.set i (some d)) S (zLcN i te ok env0 Q ds acc)) := rfl
theorem z_lcN {i : Nat} {te : ME} {ok : Sto → Prop} {env0 : DEnv} {Q : List D → Sto → Prop} {y : D} {ds acc : List D} {S : Sto} : zLcN i te ok env0 Q ds acc y S = lcR (dgName i) dYes te ok env0 Q ds (acc ++ [y]) S := rfl
theorem z_lcNil {i : Nat} {te : ME} {ok : Sto → Prop} {env0 : DEnv} {Q : List D → Sto → Prop} {acc : List D} {S : Sto} : lcR (dgName i) dYes te ok env0 Q [] acc S = (ok S ∧ Q acc S) := rfl
theorem cAt_0 {c : C3} : cAt c 0 = c.1 := rfl
theorem cAt_1 {c : C3} : cAt c 1 = c.2.1 := rfl
theorem cAt_2 {c : C3} : cAt c 2 = c.2.2 := rfl
theorem cAt_all {x y z : Int} {P : Int → Prop} (h0 : P x) (h1 : P y) (h2 : P z) (k : Int) : P (cAt (x, y, z) k) := by
  unfold cAt
  split
  · exact h0
  · split
    · exact h1
    · exact h2
end DL
/-! Comprehensions with two clauses. -/
namespace DL
open PySem PySem.Spec PyProof.Rows L2
/-- the turns: acc is what stands already -/
def lcR2 (g : MG) (tt : MT) (wi1 : MI) (g1 : MG) (tt1 : MT) (te : ME) (vs1 : List Nat) (ok : Sto → Prop) (env0 : DEnv) (Q : List D → Sto → Prop) : List D → List D → Sto → Prop
  | [], acc, S => ok S ∧ Q acc S
  | d :: ds, acc, S => ok S ∧ g d env0 S fun env' S' => tt env' S' fun b S2 => if b = true then wi1 env' S2 fun ds1 ok1 S3 => acc.length + ds1.length ≤ sizeLine ∧ lcR g1 tt1 te ok1 (dwipe env' vs1) (fun acc' S4 => lcR2 g tt wi1 g1 tt1 te vs1 ok env0 Q ds acc' S4) ds1 acc S3
    else lcR2 g tt wi1 g1 tt1 te vs1 ok env0 Q ds acc S2
def dLc2 (wi : MI) (g : MG) (tt : MT) (wi1 : MI) (g1 : MG) (tt1 : MT) (te : ME) (vs vs1 : List Nat) : ME := fun env S Q => wi env S fun ds ok S1 => lcR2 g tt wi1 g1 tt1 te vs1 ok (dwipe env vs) (fun acc S2 => Q (.lst acc) S2) ds [] S1
def dLc2O (wi : MI) (g : MG) (tt : MT) (wi1 : MI) (g1 : MG) (tt1 : MT) (te : ME) (vs vs1 : List Nat) : ME := fun env S Q => wi env S fun ds ok S1 => lcR2 g tt wi1 g1 tt1 te vs1 ok (dwipe env vs) (fun acc S2 => ∀ p, S2 p = none → Q (.ref p) (put S2 p (.lst acc))) ds [] S1
theorem ExtW.then {Z : Addr → Prop} {S S1 S2 : Sto} {H H1 H2 : Hp} (x : ExtW Z S H S1 H1) (y : Ext S1 H1 S2 H2) : ExtW Z S H S2 H2 := fun a o h n => by
  rcases x a o h n with ⟨h1, n1⟩ | r
  · exact .inl (y a o h1 n1)
  · exact .inr r
theorem EnvOk.monoW {K : Kz} {S S' : Sto} {H H' : Hp} {env : DEnv} {σ : L2.St} (e : EnvOk K S H env σ) (R : Free S H) (x : ExtW K.Z S H S' H') : EnvOk K S' H' env σ := ⟨e.len, fun i d h => let ⟨v, h1, h2⟩ := e.get i d h; ⟨v, h1, Rep.monoW R x _ _ h2⟩⟩
section
variable {X : Cx} {B : Bs} {vs vs1 : List Nat} {wi wi1 : MI} {g g1 : MG} {tt tt1 : MT} {te : ME}
theorem tLc2_of {σ : L2.St} {H : Hp} {Q : VK} {env : DEnv} {S : Sto} {F : List D → Sto → Prop} (hv : ∀ i ∈ vs1, i ∈ vs) (s : StOk (kz X B) B S H env σ) (q : wi env S fun ds ok S1 => lcR2 g tt wi1 g1 tt1 te vs1 ok (dwipe env vs) F ds [] S1)
    (fin : ∀ D acc S2 H2 ws, LcEnd X B S H D acc S2 H2 ws → F acc S2 → Q (.ref D) H2) :
    tLc2 (cI (kz X B) B wi) (fun v σ H Q => ∃ Z, cGv ⟨X.K, Z⟩ (bz B Z) vs g v σ H Q) (fun σ H Q => ∃ Z, cT ⟨X.K, Z⟩ (bz B Z) tt σ H Q)
      (fun σ H R => ∃ Z, cI ⟨X.K, Z⟩ (bz B Z) wi1 σ H R) (fun v σ H Q => ∃ Z, cGv ⟨X.K, Z⟩ (bz B Z) vs1 g1 v σ H Q) (fun σ H Q => ∃ Z, cT ⟨X.K, Z⟩ (bz B Z) tt1 σ H Q) (fun σ H Q => ∃ Z, cE ⟨X.K, Z⟩ (bz B Z) te σ H Q) vs vs1 σ H Q := by
  refine ⟨env, S, _, s, q, fun ds ok S1 J H1 x1 R1 w hz q1 => fun D nD => ?_⟩
  have zz : ∀ a, (B.Z a ∨ a = D) → B.Z a ∨ H1 a = none := fun a h => h.imp_right fun e => by rw [e]; exact nD
  have w := w (fun a => B.Z a ∨ a = D) zz
  have e1 : EnvOk ⟨X.K, fun a => B.Z a ∨ a = D⟩ S1 H1 (dwipe env vs) (L2.wipe σ vs) := ((s.mono x1 R1).env.hide (K := kz X B) zz).wipe vs
  have ap : ∀ a u, H a = some u → S a = none → a ≠ D := fun a u h n e => by
    have := (x1 a u h n).1
    rw [e, nD] at this; cases this
  refine ⟨fun i m H2 => m = ds.length - i ∧ i ≤ ds.length ∧ ∃ S2 acc ws, Ext S1 H1 S2 H2 ∧ Rel ⟨X.K, fun a => B.Z a ∨ a = D⟩ S2 H2 ∧ H2 D = some (.lst ws) ∧ RepL ⟨X.K, fun a => B.Z a ∨ a = D⟩ S2 H2 acc ws ∧ ws.length ≤ sizeLine ∧
    lcR2 g tt wi1 g1 tt1 te vs1 ok (dwipe env vs) F (ds.drop i) acc S2, ⟨ds.length, rfl, Nat.zero_le _, S1, [], [], Ext.new nD, Rel.hideNew (K := kz X B) R1 nD, upd_same, .nil, Nat.zero_le _, q1⟩, ?_⟩
  rintro i m H2 ⟨rfl, hi, S2, acc, ws, x2, R2, a2, r2, l2, q2⟩
  by_cases h : i < ds.length
  · have hd : ds[i]? = some ds[i] := List.getElem?_eq_getElem h
    rw [List.drop_eq_getElem_cons h] at q2
    obtain ⟨o2, q2⟩ := q2
    obtain ⟨go, y⟩ := (w S2 H2 x2.w R2 o2 i).1 _ hd
    refine .inr ⟨go, fun H' => ∃ S' acc' ws', Ext S1 H1 S' H' ∧ Rel ⟨X.K, fun a => B.Z a ∨ a = D⟩ S' H' ∧ H' D = some (.lst ws') ∧ RepL ⟨X.K, fun a => B.Z a ∨ a = D⟩ S' H' acc' ws' ∧ ws'.length ≤ sizeLine ∧
      lcR2 g tt wi1 g1 tt1 te vs1 ok (dwipe env vs) F (ds.drop (i + 1)) acc' S', fun H' hn => ⟨ds.length - (i + 1), by omega, rfl, h, hn⟩, fun v H3 hy => ?_⟩
    obtain ⟨x3, R3, r3⟩ := y v H3 hy
    have x13 := x2.trans x3
    refine ⟨fun a => B.Z a ∨ a = D, ds[i], dwipe env vs, S2, _, ⟨e1.monoF R1.fr x13, R3, (s.base.trans x1).trans x13⟩, r3, q2, fun env4 S4 σ4 H4 x4 s4 w4 q4 => ?_⟩
    have x14 := x13.trans x4
    refine ⟨w4.trans (wipe_idem σ vs vs fun _ z => z), fun a => B.Z a ∨ a = D, env4, S4, _, s4, q4, fun b S5 H5 x5 R5 q5 => ?_⟩
    have x15 := x14.trans x5
    have a5 : H5 D = some (.lst ws) := (((x3.trans x4).trans x5) D _ a2 (R2.hid D (.inr rfl)).2).1
    have r5 := RepL.mono R2 ((x3.trans x4).trans x5) _ _ r2
    cases b with
    | false =>
      rw [if_neg Bool.false_ne_true] at q5
      refine iteF ?_
      exact ⟨S5, acc, ws, x15, R5, a5, r5, l2, q5⟩
    | true =>
      rw [if_pos rfl] at q5
      refine iteT ?_
      have s5 := s4.mono x5 R5
      refine ⟨fun a => B.Z a ∨ a = D, env4, S5, _, s5, q5, fun ds1 ok1 S6 J1 H6 x6 R6 w6 hz1 q6 => ?_⟩
      obtain ⟨hz6, q6⟩ := q6
      have w6 := w6 (fun a => B.Z a ∨ a = D) fun a h => .inl h
      have s6 := s5.mono x6 R6
      have x16 := x15.trans x6
      have a6 : H6 D = some (.lst ws) := (x6 D _ a5 (R5.hid D (.inr rfl)).2).1
      have r6 := RepL.mono R5 x6 _ _ r5
      have e6 := s6.env.wipe vs1
      refine ⟨fun j k H7 => k = ds1.length - j ∧ j ≤ ds1.length ∧ ∃ S7 acc7 ws7, Ext S1 H1 S7 H7 ∧ ExtW (fun a => B.Z a ∨ a = D) S6 H6 S7 H7 ∧ Rel ⟨X.K, fun a => B.Z a ∨ a = D⟩ S7 H7 ∧ H7 D = some (.lst ws7) ∧ RepL ⟨X.K, fun a => B.Z a ∨ a = D⟩ S7 H7 acc7 ws7 ∧ ws7.length ≤ ws.length + j ∧
        lcR g1 tt1 te ok1 (dwipe env4 vs1) (fun acc' S4 => lcR2 g tt wi1 g1 tt1 te vs1 ok (dwipe env vs) F (ds.drop (i + 1)) acc' S4) (ds1.drop j) acc7 S7, ⟨ds1.length, rfl, Nat.zero_le _, S6, acc, ws, x16, Ext.refl.w, R6, a6, r6, Nat.le_refl _, q6⟩, ?_⟩
      rintro j k H7 ⟨rfl, hj, S7, acc7, ws7, x17, x7, R7, a7, r7, l7, q7⟩
      have hacc : acc.length = ws.length := r2.length
      by_cases h1 : j < ds1.length
      · have hd1 : ds1[j]? = some ds1[j] := List.getElem?_eq_getElem h1
        rw [List.drop_eq_getElem_cons h1] at q7
        obtain ⟨o7, q7⟩ := q7
        obtain ⟨go1, y1⟩ := (w6 S7 H7 x7 R7 o7 j).1 _ hd1
        refine .inr ⟨go1, fun H' => ∃ S' acc' ws', Ext S1 H1 S' H' ∧ ExtW (fun a => B.Z a ∨ a = D) S6 H6 S' H' ∧ Rel ⟨X.K, fun a => B.Z a ∨ a = D⟩ S' H' ∧ H' D = some (.lst ws') ∧ RepL ⟨X.K, fun a => B.Z a ∨ a = D⟩ S' H' acc' ws' ∧ ws'.length ≤ ws.length + (j + 1) ∧
          lcR g1 tt1 te ok1 (dwipe env4 vs1) (fun acc' S4 => lcR2 g tt wi1 g1 tt1 te vs1 ok (dwipe env vs) F (ds.drop (i + 1)) acc' S4) (ds1.drop (j + 1)) acc' S', fun H' hn => ⟨ds1.length - (j + 1), by omega, rfl, h1, hn⟩, fun v1 H8 hy1 => ?_⟩
        obtain ⟨x8, R8, r8⟩ := y1 v1 H8 hy1
        have x68 := x7.then x8
        have x18 := x17.trans x8
        refine ⟨fun a => B.Z a ∨ a = D, ds1[j], dwipe env4 vs1, S7, _, ⟨EnvOk.monoW (K := ⟨X.K, fun a => B.Z a ∨ a = D⟩) e6 R6.fr x68, R8, (s.base.trans x1).trans x18⟩, r8, q7, fun env9 S9 σ9 H9 x9 s9 w9 q9 => ?_⟩
        have x69 := x68.then x9
        have x19 := x18.trans x9
        refine ⟨w9.trans (wipe_idem _ vs1 vs1 fun _ z => z), fun a => B.Z a ∨ a = D, env9, S9, _, s9, q9, fun b S10 H10 x10 R10 q10 => ?_⟩
        have x610 := x69.then x10
        have x110 := x19.trans x10
        have a10 : H10 D = some (.lst ws7) := (((x8.trans x9).trans x10) D _ a7 (R7.hid D (.inr rfl)).2).1
        have r10 := RepL.mono R7 ((x8.trans x9).trans x10) _ _ r7
        cases b with
        | false =>
          rw [if_neg Bool.false_ne_true] at q10
          refine iteF ?_
          exact ⟨S10, acc7, ws7, x110, x610, R10, a10, r10, by omega, q10⟩
        | true =>
          rw [if_pos rfl] at q10
          refine iteT ?_
          refine ⟨fun a => B.Z a ∨ a = D, env9, S10, _, s9.mono x10 R10, q10, fun yd S11 yv H11 x11 R11 r11 q11 => ?_⟩
          have a11 : H11 D = some (.lst ws7) := (x11 D _ a10 (R10.hid D (.inr rfl)).2).1
          have t11 : Turn1 H11 (upd H11 D (.lst (ws7 ++ [yv]))) D := ⟨⟨ws7, a11⟩, fun a ne => upd_ne ne⟩
          refine ⟨ws7, a11, by omega, S11, acc7 ++ [yd], ws7 ++ [yv], fun a u ha na => ?_, fun a u ha na => ?_, R11.turn t11 (.inr rfl) (by rw [upd_same]; exact fun z => nomatch z), upd_same, ?_, ?_, q11⟩
          · have ne : a ≠ D := fun e => by rw [e, nD] at ha; cases ha
            rw [upd_ne ne]
            exact (x110.trans x11) a u ha na
          · by_cases e : a = D
            · subst e
              rw [a6] at ha; cases ha
              exact .inr ⟨.inr rfl, ws, rfl⟩
            · rw [upd_ne e]
              exact (x610.then x11) a u ha na
          · exact RepL.turn (K := ⟨X.K, fun a => B.Z a ∨ a = D⟩) t11 (.inr rfl) _ _ ((RepL.mono R10 x11 _ _ r10).append (.cons r11 .nil))
          · rw [List.length_append, List.length_singleton]; omega
      · obtain rfl : j = ds1.length := by omega
        rw [List.drop_length] at q7
        refine .inl ⟨(w6 S7 H7 x7 R7 q7.1 _).2 (Nat.le_refl _), S7, acc7, ws7, x17, R7, a7, r7, by omega, q7.2⟩
  · obtain rfl : i = ds.length := by omega
    rw [List.drop_length] at q2
    refine .inl ⟨(w S2 H2 x2.w R2 q2.1 _).2 (Nat.le_refl _), fin D acc S2 H2 ws ⟨x1.trans x2, ap, R2, fun z => (R1.hid D z).1 nD, a2, l2, r2⟩ q2.2⟩
variable {elt tg iter tg1 iter1 : Expr} {ifs ifs1 : List Expr} {scope : Scope} {own : List (Str × Nat)} {pos spos : Pos}
theorem PI_ex {ι : Type} {X : Cx} {tg e : Expr} {t : ι → TI} (h : ∀ i, PI X tg e (t i)) : PI X tg e (fun σ H R => ∃ i, t i σ H R) := ⟨fun pins s σ H R I ⟨i, q⟩ => (h i).run pins s σ H R I q⟩
/-- [elt for tg in iter if .. for tg1 in iter1 if ..] -/
theorem de_lc2 (hc : X.calm = true) (hN : X.N.Nodup) (hi : DI X B tg iter wi) (ok : BlkOk X.N X.env.scope scope own) (hv : ∀ i ∈ vs1, i ∈ own.map (·.2))
    (hg : ∀ (Z : Addr → Prop) (s : Shared) (H : Hp) (C : Addr) (cl : List (Str × Addr)) (fp : List Addr), DGv (X.blk s H scope (compEnvC scope cl C X.env) fp) (bz B Z) (own.map (·.2)) tg g)
    (ht : ∀ (Z : Addr → Prop) (s : Shared) (H : Hp) (C : Addr) (cl : List (Str × Addr)) (fp : List Addr), DTs (X.blk s H scope (compEnvC scope cl C X.env) fp) (bz B Z) ifs tt)
    (hi1 : ∀ (Z : Addr → Prop) (s : Shared) (H : Hp) (C : Addr) (cl : List (Str × Addr)) (fp : List Addr), DI (X.blk s H scope (compEnvC scope cl C X.env) fp) (bz B Z) tg1 iter1 wi1)
    (hg1 : ∀ (Z : Addr → Prop) (s : Shared) (H : Hp) (C : Addr) (cl : List (Str × Addr)) (fp : List Addr), DGv (X.blk s H scope (compEnvC scope cl C X.env) fp) (bz B Z) vs1 tg1 g1)
    (ht1 : ∀ (Z : Addr → Prop) (s : Shared) (H : Hp) (C : Addr) (cl : List (Str × Addr)) (fp : List Addr), DTs (X.blk s H scope (compEnvC scope cl C X.env) fp) (bz B Z) ifs1 tt1)
    (he : ∀ (Z : Addr → Prop) (s : Shared) (H : Hp) (C : Addr) (cl : List (Str × Addr)) (fp : List Addr), DE (X.blk s H scope (compEnvC scope cl C X.env) fp) (bz B Z) elt te) (hs : ∀ x, foldedSetIterable iter X.env x = pure x := by intro _; rfl) (hs1 : ∀ env x, foldedSetIterable iter1 env x = pure x := by intro _ _; rfl) :
    DE X B (.ListComp elt [⟨tg, iter, ifs, 0⟩, ⟨tg1, iter1, ifs1, 0⟩] scope pos) (dLc2 wi g tt wi1 g1 tt1 te (own.map (·.2)) vs1) :=
  PE_imp (pe_lc2 hc hN hi ok hv (fun s H C cl fp => PG_ex fun Z => hg Z s H C cl fp) (fun s H C cl fp => PTs_ex fun Z => ht Z s H C cl fp) (fun s H C cl fp => PI_ex fun Z => hi1 Z s H C cl fp) (fun s H C cl fp => PG_ex fun Z => hg1 Z s H C cl fp) (fun s H C cl fp => PTs_ex fun Z => ht1 Z s H C cl fp) (fun s H C cl fp => PE_ex fun Z => he Z s H C cl fp) hs hs1) fun σ H Q ⟨env, S, Qd, s, q, f⟩ =>
    tLc2_of hv s q fun D acc S2 H2 ws l q2 => l.settled f q2
theorem de_lc2O (hc : X.calm = true) (hN : X.N.Nodup) (hi : DI X B tg iter wi) (ok : BlkOk X.N X.env.scope scope own) (hv : ∀ i ∈ vs1, i ∈ own.map (·.2))
    (hg : ∀ (Z : Addr → Prop) (s : Shared) (H : Hp) (C : Addr) (cl : List (Str × Addr)) (fp : List Addr), DGv (X.blk s H scope (compEnvC scope cl C X.env) fp) (bz B Z) (own.map (·.2)) tg g)
    (ht : ∀ (Z : Addr → Prop) (s : Shared) (H : Hp) (C : Addr) (cl : List (Str × Addr)) (fp : List Addr), DTs (X.blk s H scope (compEnvC scope cl C X.env) fp) (bz B Z) ifs tt)
    (hi1 : ∀ (Z : Addr → Prop) (s : Shared) (H : Hp) (C : Addr) (cl : List (Str × Addr)) (fp : List Addr), DI (X.blk s H scope (compEnvC scope cl C X.env) fp) (bz B Z) tg1 iter1 wi1)
    (hg1 : ∀ (Z : Addr → Prop) (s : Shared) (H : Hp) (C : Addr) (cl : List (Str × Addr)) (fp : List Addr), DGv (X.blk s H scope (compEnvC scope cl C X.env) fp) (bz B Z) vs1 tg1 g1)
    (ht1 : ∀ (Z : Addr → Prop) (s : Shared) (H : Hp) (C : Addr) (cl : List (Str × Addr)) (fp : List Addr), DTs (X.blk s H scope (compEnvC scope cl C X.env) fp) (bz B Z) ifs1 tt1)
    (he : ∀ (Z : Addr → Prop) (s : Shared) (H : Hp) (C : Addr) (cl : List (Str × Addr)) (fp : List Addr), DE (X.blk s H scope (compEnvC scope cl C X.env) fp) (bz B Z) elt te) (hs : ∀ x, foldedSetIterable iter X.env x = pure x := by intro _; rfl) (hs1 : ∀ env x, foldedSetIterable iter1 env x = pure x := by intro _ _; rfl) :
    DE X B (.ListComp elt [⟨tg, iter, ifs, 0⟩, ⟨tg1, iter1, ifs1, 0⟩] scope pos) (dLc2O wi g tt wi1 g1 tt1 te (own.map (·.2)) vs1) :=
  PE_imp (pe_lc2 hc hN hi ok hv (fun s H C cl fp => PG_ex fun Z => hg Z s H C cl fp) (fun s H C cl fp => PTs_ex fun Z => ht Z s H C cl fp) (fun s H C cl fp => PI_ex fun Z => hi1 Z s H C cl fp) (fun s H C cl fp => PG_ex fun Z => hg1 Z s H C cl fp) (fun s H C cl fp => PTs_ex fun Z => ht1 Z s H C cl fp) (fun s H C cl fp => PE_ex fun Z => he Z s H C cl fp) hs hs1) fun σ H Q ⟨env, S, Qd, s, q, f⟩ =>
    tLc2_of hv s q fun D acc S2 H2 ws l q2 => l.owned f q2
theorem ds_setLc2 (i : Nat) {y : Str} {py : Pos} (hc : X.calm = true) (hN : X.N.Nodup) (hsw : swapsWith (.ListComp elt [⟨tg, iter, ifs, 0⟩, ⟨tg1, iter1, ifs1, 0⟩] scope pos) (some (.Name y py)) spos.line X.env = pure true) (hi : DI X B tg iter wi) (ok : BlkOk X.N X.env.scope scope own) (hv : ∀ i ∈ vs1, i ∈ own.map (·.2))
    (hg : ∀ (Z : Addr → Prop) (s : Shared) (H : Hp) (C : Addr) (cl : List (Str × Addr)) (fp : List Addr), DGv (X.blk s H scope (compEnvC scope cl C X.env) fp) (bz B Z) (own.map (·.2)) tg g)
    (ht : ∀ (Z : Addr → Prop) (s : Shared) (H : Hp) (C : Addr) (cl : List (Str × Addr)) (fp : List Addr), DTs (X.blk s H scope (compEnvC scope cl C X.env) fp) (bz B Z) ifs tt)
    (hi1 : ∀ (Z : Addr → Prop) (s : Shared) (H : Hp) (C : Addr) (cl : List (Str × Addr)) (fp : List Addr), DI (X.blk s H scope (compEnvC scope cl C X.env) fp) (bz B Z) tg1 iter1 wi1)
    (hg1 : ∀ (Z : Addr → Prop) (s : Shared) (H : Hp) (C : Addr) (cl : List (Str × Addr)) (fp : List Addr), DGv (X.blk s H scope (compEnvC scope cl C X.env) fp) (bz B Z) vs1 tg1 g1)
    (ht1 : ∀ (Z : Addr → Prop) (s : Shared) (H : Hp) (C : Addr) (cl : List (Str × Addr)) (fp : List Addr), DTs (X.blk s H scope (compEnvC scope cl C X.env) fp) (bz B Z) ifs1 tt1)
    (he : ∀ (Z : Addr → Prop) (s : Shared) (H : Hp) (C : Addr) (cl : List (Str × Addr)) (fp : List Addr), DE (X.blk s H scope (compEnvC scope cl C X.env) fp) (bz B Z) elt te)
    (hy : X.N[i]? = some y := by rfl) (hyl : X.env.scope.names.lookup y = some .local := by rfl) (hs : ∀ x, foldedSetIterable iter X.env x = pure x := by intro _; rfl) (hs1 : ∀ env x, foldedSetIterable iter1 env x = pure x := by intro _ _; rfl) :
    DS X B (.Assign [.Name y py] (.ListComp elt [⟨tg, iter, ifs, 0⟩, ⟨tg1, iter1, ifs1, 0⟩] scope pos) spos) (dSet i (dLc2 wi g tt wi1 g1 tt1 te (own.map (·.2)) vs1)) :=
  PS_imp (ps_setLc2 hc hN hy hyl hsw hi ok hv (fun s H C cl fp => PG_ex fun Z => hg Z s H C cl fp) (fun s H C cl fp => PTs_ex fun Z => ht Z s H C cl fp) (fun s H C cl fp => PI_ex fun Z => hi1 Z s H C cl fp) (fun s H C cl fp => PG_ex fun Z => hg1 Z s H C cl fp) (fun s H C cl fp => PTs_ex fun Z => ht1 Z s H C cl fp) (fun s H C cl fp => PE_ex fun Z => he Z s H C cl fp) hs hs1) fun D σ H q => by
    obtain ⟨env, S, Dd, s, q, f⟩ := q
    exact tLc2_of hv s q fun D acc S2 H2 ws l q2 => l.settled (Qd := fun d S' => Dd.nx (env.set i (some d)) S') (fun d S' v H' x R r q' => f.nx _ S' _ H' x ((s.mono x R).set r i) q') q2
theorem ds_setLc2O (i : Nat) {y : Str} {py : Pos} (hc : X.calm = true) (hN : X.N.Nodup) (hsw : swapsWith (.ListComp elt [⟨tg, iter, ifs, 0⟩, ⟨tg1, iter1, ifs1, 0⟩] scope pos) (some (.Name y py)) spos.line X.env = pure true) (hi : DI X B tg iter wi) (ok : BlkOk X.N X.env.scope scope own) (hv : ∀ i ∈ vs1, i ∈ own.map (·.2))
    (hg : ∀ (Z : Addr → Prop) (s : Shared) (H : Hp) (C : Addr) (cl : List (Str × Addr)) (fp : List Addr), DGv (X.blk s H scope (compEnvC scope cl C X.env) fp) (bz B Z) (own.map (·.2)) tg g)
    (ht : ∀ (Z : Addr → Prop) (s : Shared) (H : Hp) (C : Addr) (cl : List (Str × Addr)) (fp : List Addr), DTs (X.blk s H scope (compEnvC scope cl C X.env) fp) (bz B Z) ifs tt)
    (hi1 : ∀ (Z : Addr → Prop) (s : Shared) (H : Hp) (C : Addr) (cl : List (Str × Addr)) (fp : List Addr), DI (X.blk s H scope (compEnvC scope cl C X.env) fp) (bz B Z) tg1 iter1 wi1)
    (hg1 : ∀ (Z : Addr → Prop) (s : Shared) (H : Hp) (C : Addr) (cl : List (Str × Addr)) (fp : List Addr), DGv (X.blk s H scope (compEnvC scope cl C X.env) fp) (bz B Z) vs1 tg1 g1)
    (ht1 : ∀ (Z : Addr → Prop) (s : Shared) (H : Hp) (C : Addr) (cl : List (Str × Addr)) (fp : List Addr), DTs (X.blk s H scope (compEnvC scope cl C X.env) fp) (bz B Z) ifs1 tt1)
    (he : ∀ (Z : Addr → Prop) (s : Shared) (H : Hp) (C : Addr) (cl : List (Str × Addr)) (fp : List Addr), DE (X.blk s H scope (compEnvC scope cl C X.env) fp) (bz B Z) elt te)
    (hy : X.N[i]? = some y := by rfl) (hyl : X.env.scope.names.lookup y = some .local := by rfl) (hs : ∀ x, foldedSetIterable iter X.env x = pure x := by intro _; rfl) (hs1 : ∀ env x, foldedSetIterable iter1 env x = pure x := by intro _ _; rfl) :
    DS X B (.Assign [.Name y py] (.ListComp elt [⟨tg, iter, ifs, 0⟩, ⟨tg1, iter1, ifs1, 0⟩] scope pos) spos) (dSet i (dLc2O wi g tt wi1 g1 tt1 te (own.map (·.2)) vs1)) :=
  PS_imp (ps_setLc2 hc hN hy hyl hsw hi ok hv (fun s H C cl fp => PG_ex fun Z => hg Z s H C cl fp) (fun s H C cl fp => PTs_ex fun Z => ht Z s H C cl fp) (fun s H C cl fp => PI_ex fun Z => hi1 Z s H C cl fp) (fun s H C cl fp => PG_ex fun Z => hg1 Z s H C cl fp) (fun s H C cl fp => PTs_ex fun Z => ht1 Z s H C cl fp) (fun s H C cl fp => PE_ex fun Z => he Z s H C cl fp) hs hs1) fun D σ H q => by
    obtain ⟨env, S, Dd, s, q, f⟩ := q
    exact tLc2_of hv s q fun D acc S2 H2 ws l q2 => l.owned (Qd := fun d S' => Dd.nx (env.set i (some d)) S') (fun d S' v H' x R r q' => f.nx _ S' _ H' x ((s.mono x R).set r i) q') q2
end
end DL
/-! More targets; steps of comprehensions with two clauses. -/
namespace DL
open PySem PySem.Spec PyProof.Rows L2
section
variable {X : Cx} {B : Bs} {es : List Expr} {pos : Pos}
/-- (a, b, ..) = a list -/
def dgUnl (n : Nat) (t : MGs) : MG := fun d env S Q => match lstOf S d with
  | some ds => ds.length = n ∧ t ds env S Q
  | none => False
theorem dg_unl {k : Nat} {t : MGs} {n : Nat} (hc : X.calm = true) (h : DGs X B es t) (hn : (assignEach es X.env).length = n := by rfl) (hst : (assignEach es X.env).findIdx? (·.1) = none := by rfl) : DG X B (.Tuple es k pos) (dgUnl n t) :=
  PG_imp (pg_unl hc h hn hst) fun v σ H Q ⟨d, env, S, Qd, s, r, q, f⟩ => by
  unfold dgUnl at q
  cases hs : lstOf S d with
  | none => simp only [hs] at q
  | some ds =>
    simp only [hs] at q
    obtain ⟨a, us, rfl, sa, za, ra⟩ := lst_read s.rel r hs
    exact ⟨a, us, rfl, sa, by rw [← ra.length]; exact q.1, ds, env, S, Qd, s, ra, q.2, f⟩
end
section
variable {ds xs ys acc : List D} {d : D} {env env0 : DEnv} {S : Sto} {mt mt' : MT} {wi wi1 : MI} {g g1 : MG} {te : ME} {vs vs1 : List Nat} {ok : Sto → Prop}
theorem z_gUnl {n : Nat} {t : MGs} {Q : DEnv → Sto → Prop} : dgUnl n t (.lst ds) env S Q = (ds.length = n ∧ t ds env S Q) := rfl
def zLc2 (g : MG) (tt : MT) (wi1 : MI) (g1 : MG) (tt1 : MT) (te : ME) (vs1 : List Nat) (env0 : DEnv) (Q : DQ) (ds : List D) (ok : Sto → Prop) (S1 : Sto) : Prop := lcR2 g tt wi1 g1 tt1 te vs1 ok env0 (fun acc S2 => Q (.lst acc) S2) ds [] S1
def zLc2O (g : MG) (tt : MT) (wi1 : MI) (g1 : MG) (tt1 : MT) (te : ME) (vs1 : List Nat) (env0 : DEnv) (Q : DQ) (ds : List D) (ok : Sto → Prop) (S1 : Sto) : Prop := lcR2 g tt wi1 g1 tt1 te vs1 ok env0 (fun acc S2 => ∀ p, S2 p = none → Q (.ref p) (put S2 p (.lst acc))) ds [] S1
theorem z_lc2 {Q : DQ} : dLc2 wi g mt wi1 g1 mt' te vs vs1 env S Q = wi env S (zLc2 g mt wi1 g1 mt' te vs1 (dwipe env vs) Q) := rfl
theorem z_lc2s {Q : DQ} : zLc2 g mt wi1 g1 mt' te vs1 env Q ds ok S = lcR2 g mt wi1 g1 mt' te vs1 ok env (zLcE Q) ds [] S := rfl
theorem z_lc2O {Q : DQ} : dLc2O wi g mt wi1 g1 mt' te vs vs1 env S Q = wi env S (zLc2O g mt wi1 g1 mt' te vs1 (dwipe env vs) Q) := rfl
theorem z_lc2Os {Q : DQ} : zLc2O g mt wi1 g1 mt' te vs1 env Q ds ok S = lcR2 g mt wi1 g1 mt' te vs1 ok env (zLcOE Q) ds [] S := rfl
/-- the inner clause's turns, behind which the outer one goes on -/
def zLc2W (g1 : MG) (tt1 : MT) (te : ME) (env1 : DEnv) (acc : List D) (K : List D → Sto → Prop) (ds1 : List D) (ok1 : Sto → Prop) (S3 : Sto) : Prop := acc.length + ds1.length ≤ sizeLine ∧ lcR g1 tt1 te ok1 env1 K ds1 acc S3
theorem z_lc2W {K : List D → Sto → Prop} : zLc2W g1 mt te env acc K ds ok S = (acc.length + ds.length ≤ sizeLine ∧ lcR g1 mt te ok env K ds acc S) := rfl
theorem lc2_cons {k : Nat} {Q : List D → Sto → Prop} : lcR2 (dgName k) dYes wi1 g1 mt' te vs1 ok env0 Q (d :: ds) acc S = (ok S ∧ wi1 (env0.set k (some d)) S (zLc2W g1 mt' te (dwipe (env0.set k (some d)) vs1) acc fun acc' S4 => lcR2 (dgName k) dYes wi1 g1 mt' te vs1 ok env0 Q ds acc' S4)) := rfl
theorem lc2_nil {Q : List D → Sto → Prop} : lcR2 g mt wi1 g1 mt' te vs1 ok env0 Q [] acc S = (ok S ∧ Q acc S) := rfl
/-- by an invariant of the outer clause; each turn adds what it wishes -/
theorem lc2_inv {Q : List D → Sto → Prop} (I : Nat → List D → Sto → Prop) {all : List D} (h0 : I 0 [] S)
    (hs : ∀ k d acc S (Z : List D → Sto → Prop), all[k]? = some d → I k acc S → (∀ acc' S', I (k + 1) acc' S' → Z acc' S') → ok S ∧ g d env0 S fun env' S' => mt env' S' fun b S2 => if b = true then wi1 env' S2 fun ds1 ok1 S3 => acc.length + ds1.length ≤ sizeLine ∧ lcR g1 mt' te ok1 (dwipe env' vs1) Z ds1 acc S3 else Z acc S2)
    (hd : ∀ acc S, I all.length acc S → ok S ∧ Q acc S) : lcR2 g mt wi1 g1 mt' te vs1 ok env0 Q all [] S := by
  have go : ∀ (ds : List D) (k : Nat) acc S, all.drop k = ds → k ≤ all.length → I k acc S → lcR2 g mt wi1 g1 mt' te vs1 ok env0 Q ds acc S := by
    intro ds
    induction ds with
    | nil =>
      intro k acc S e hk hi
      have : all.length ≤ k := by
        have := congrArg List.length e
        rw [List.length_drop, List.length_nil] at this
        omega
      obtain rfl : k = all.length := by omega
      exact hd acc S hi
    | cons d ds ih =>
      intro k acc S e hk hi
      have hlt : k < all.length := by
        have := congrArg List.length e
        rw [List.length_drop, List.length_cons] at this
        omega
      rw [List.drop_eq_getElem_cons hlt] at e
      have e1 : all[k] = d := (List.cons.inj e).1
      have e2 : all.drop (k + 1) = ds := (List.cons.inj e).2
      exact hs k d acc S _ (by rw [List.getElem?_eq_getElem hlt, e1]) hi fun acc' S' hi' => ih (k + 1) acc' S' e2 hlt hi'
  exact go all 0 [] S rfl (Nat.zero_le _) h0
end
end DL
/-! Sorting and comparing of nested data. -/
namespace DL
open PySem PySem.Spec PyProof.Rows L2
open PySem.W (AllAlike alike dataLe dataKind EachIs dataLt)
section
variable {prog : Program} {w : World} {A : Around} {E : Value → Shared → Prop} {s : Shared} {κ : PyProof.Rows.KeyKind}
theorem sorted_of_sortS {l : Addr} {vs : List Value} {Q : Value → Shared → Prop} (hl : SeqIs s.heap l vs.toArray) (hL : vs.length ≤ sizeLine)
    (S : PySem.W.SortsAt prog w A.in1.in1 { s with heap := PySem.W.sortingHeap (PySem.W.copyHeap s.heap vs) (s.heap.objs.size + 1) vs } κ vs)
    (h : Q (.ref (s.heap.objs.size + 1)) { s with heap := sortedAll s.heap vs (PySem.W.sortVals κ false vs vs).toArray }) : wpAny (model prog w) A (call (.builtin "sorted") [.ref l]) Q E s := by
  refine Calls.call_function_entry kind_sorted plain_sorted entry_sorted (args_sorted1 _) ?_
  unfold Builtin.«sorted»
  refine wpAny_bind (m := checkCount "sorted" 1 1 _) (wpAny_pure ?_)
  refine wpAny_bind (collect_seq hl ?_ hL)
  refine wpAny_bind (wpAny_newList ?_ hL)
  have hsz : ((s.heap.push (seqObj "list" #[] 0)).update s.heap.objs.size (Obj.mapSeq (· ++ vs.toArray))).objs.size = s.heap.objs.size + 1 := by
    rw [Heap.size_update, size_push']
  show wpAny _ _ _ _ _ { s with heap := PySem.W.copyHeap s.heap vs }
  rw [hsz]
  refine wpAny_bind (wpAny_holding (wpAny_call_entry slot_list_sort ⟨_, PySem.W.copyHeap_at s.heap vs, rfl⟩ entry_list_sort (PySem.W.list_sort_vals (s := { s with heap := PySem.W.copyHeap s.heap vs }) (PySem.W.copyHeap_at s.heap vs) S hL ⟨_, rfl, ?_⟩) (args_list_sort _)))
  exact wpAny_pure ⟨_, rfl, h⟩
end
/-- sorted(xs) of data that can be compared -/
def rSortG (K : PySem.W.Frag) : List V → Hp → VK → Prop := fun vs H Q => ∃ (a : Addr) (xs : List V) (ds : List PyData), vs = [V.ref a] ∧ (SqL K H a xs ∨ SqT K H a xs) ∧ DpAll K H xs ds ∧ AllAlike ds ∧ PySem.W.Sortable ds ∧ (∀ d ∈ ds, d.depth ≤ 64) ∧
  ∀ p, H p = none → Q (.ref p) (upd H p (.lst (((xs.zip ds).mergeSort (dataLe false Prod.snd)).map Prod.fst)))
theorem readsAll_each {h : Heap} : ∀ {vs : List Value} {ds : List PyData} {as : List Addr}, ReadsAll h vs ds as → EachIs (fun v d => ∃ as, Reads h v d as) vs ds
  | [], _, _, r => by cases r; exact .nil
  | v :: vs, _, _, r => by cases r with | cons a b => exact .cons ⟨_, a⟩ (readsAll_each b)
theorem vals_each : ∀ {xs : List V} {us : List Value} {ds : List PyData}, Vals xs us → xs.length = ds.length → EachIs (fun (u : Value) (b : V × PyData) => RelV b.1 u) us (xs.zip ds)
  | [], _, _, r, _ => by cases r; exact .nil
  | x :: xs, _, [], r, h => by simp at h
  | x :: xs, _, d :: ds, r, h => by cases r with | cons a b => exact .cons a (vals_each b (by simpa using h))
theorem each_vals : ∀ {zs : List (V × PyData)} {us : List Value}, EachIs (fun (u : Value) (b : V × PyData) => RelV b.1 u) us zs → Vals (zs.map Prod.fst) us
  | [], _, h => by cases h; exact .nil
  | z :: zs, _, h => by cases h with | cons a b => exact .cons a (each_vals b)
theorem dpAll_length {K : PySem.W.Frag} {H : Hp} : ∀ {xs : List V} {ds : List PyData}, DpAll K H xs ds → xs.length = ds.length
  | [], _, h => by cases h; rfl
  | x :: xs, _, h => by cases h with | cons a b => simp [dpAll_length b]
theorem cr_sortG {X : Cx} {k : Nat} (m : Amb X.A k) : CallR X (.builtin "sorted") (rSortG X.K) := by
  intro pins s σ H vs us Q I r h
  obtain ⟨a, xs, ds, rfl, hs, dp, hal, hso, hd, q⟩ := h
  obtain ⟨its, rv, hl, hz⟩ : ∃ its : List Value, Vals xs its ∧ SeqIs s.heap a its.toArray ∧ xs.length ≤ sizeLine := by
    rcases hs with hs | hs
    · obtain ⟨its, rv, hl, hz⟩ := I.list hs
      exact ⟨its, rv, .inl hl.isList, hz⟩
    · obtain ⟨its, rv, hl, hz⟩ := I.tuple hs
      exact ⟨its, rv, .inr hl, hz⟩
  obtain ⟨u, rfl, ru⟩ := vals1 r
  obtain rfl : u = Value.ref a := ru
  obtain ⟨as, ra⟩ := Dp.readsAll I _ _ _ dp rv
  have hlen := dpAll_length dp
  have hz2 : its.length ≤ sizeLine := by rw [← rv.length]; exact hz
  have hu := m.u65
  have e0 : EachIs (fun v d => ∃ as, Reads (PySem.W.sortingHeap (PySem.W.copyHeap s.heap its) (s.heap.objs.size + 1) its) v d as) its ds :=
    (readsAll_each ra).mono fun v d ⟨as, r⟩ => ⟨as, PyProof.Rows.Reads.keeps (fun b o e => PySem.W.sorting_copy_old e) r⟩
  refine sorted_of_sortS hl hz2 (PySem.W.SortsAt.data e0 hal hso fun d hm => ?_) ?_
  · have := hd d hm
    have e : X.A.in1.in1.units = X.A.units + 2 := rfl
    rw [e]
    have := m.room.un
    omega
  · have ko : PySem.W.KeyedOut false ((xs.zip ds).map Prod.snd) its (PySem.W.sortVals (dataKind (PySem.W.sortingHeap (PySem.W.copyHeap s.heap its) (s.heap.objs.size + 1) its) ds) false its its) := by
      have es : (xs.zip ds).map Prod.snd = ds := List.map_snd_zip (by omega)
      rw [es]
      exact ⟨_, its, hal, rfl, e0⟩
    have eo := PySem.W.keyedOut_each (Prod.snd) ko (vals_each rv hlen)
    have vo := each_vals eo
    obtain ⟨ep, he'⟩ := PyProof.Rows.sortedAll_at s.heap its (PySem.W.sortVals (dataKind (PySem.W.sortingHeap (PySem.W.copyHeap s.heap its) (s.heap.objs.size + 1) its) ds) false its its).toArray
    refine ⟨.ref _, upd H (s.heap.objs.size + 1) (.lst (((xs.zip ds).mergeSort (dataLe false Prod.snd)).map Prod.fst)), I.laid (t' := s.toks) (fun _ _ => PyProof.Rows.sortedAll_old) (Nat.le_succ _) ⟨?_, _, ep, vo, he'⟩, rfl, q _ (I.hok.fresh (Nat.le_succ _))⟩
    rw [List.length_map, List.length_mergeSort, List.length_zip, hlen, Nat.min_self, ← hlen]
    exact hz
/-- in Python's order -/
def ltD (x y : D) : Bool := dataLt (py x) (py y)
def sortD (ds : List D) : List D := ds.mergeSort (dataLe false py)
def alikes (ds : List D) : Prop := plainAll ds = true ∧ AllAlike (ds.map py) ∧ PySem.W.Sortable (ds.map py) ∧ ∀ d ∈ ds, (py d).depth ≤ 64
def sortGP : DN := fun ds S Q => match ds with
  | [d] => match seqOf S d with
    | some xs => alikes xs ∧ Q (.lst (sortD xs)) S
    | none => False
  | _ => False
def sortGOP : DN := fun ds S Q => match ds with
  | [d] => match seqOf S d with
    | some xs => alikes xs ∧ ∀ p, S p = none → Q (.ref p) (put S p (.lst (sortD xs)))
    | none => False
  | _ => False
theorem repL_pairs {K : Kz} {S : Sto} {H : Hp} : ∀ {l : List (D × V)}, (∀ p ∈ l, Rep K S H p.1 p.2) → RepL K S H (l.map Prod.fst) (l.map Prod.snd)
  | [], _ => .nil
  | y :: ys, h => .cons (h y List.mem_cons_self) (repL_pairs fun z hz => h z (List.mem_cons_of_mem _ hz))
theorem repL_zip {K : Kz} {S : Sto} {H : Hp} : ∀ {ds : List D} {vs : List V}, RepL K S H ds vs → ∀ p ∈ ds.zip vs, Rep K S H p.1 p.2
  | [], _, h, p, hp => by cases h; simp at hp
  | d :: ds, _, h, p, hp => by
    cases h with
    | cons a b =>
      rw [List.zip_cons_cons] at hp
      rcases List.mem_cons.mp hp with rfl | hp
      · exact a
      · exact repL_zip b p hp
theorem zip_swap : ∀ (xs : List D) (us : List V), us.zip (xs.map py) = (xs.zip us).map fun q => (q.2, py q.1)
  | [], us => by simp
  | x :: xs, [] => by simp
  | x :: xs, u :: us => by simp [zip_swap xs us]
theorem sortG_of {K : Kz} {S : Sto} {H : Hp} {a : Addr} {us : List V} {xs : List D} {Q : VK} (hs : SqL K.K H a us ∨ SqT K.K H a us) (ra : RepL K S H xs us) (h : alikes xs)
    (f : ∀ (ws : List V) (p : Addr), RepL K S H (sortD xs) ws → ws.length = us.length → H p = none → Q (.ref p) (upd H p (.lst ws))) : rSortG K.K [.ref a] H Q := by
  obtain ⟨hp, h1, h2, h3⟩ := h
  have hl := ra.length
  have dp := RepL.dp _ _ hp ra
  rw [pyAll_map] at dp
  refine ⟨a, us, xs.map py, rfl, hs, dp, h1, h2, fun d hd => ?_, fun p n => ?_⟩
  · obtain ⟨x, hx, rfl⟩ := List.mem_map.mp hd
    exact h3 x hx
  · have e1 : us.zip (xs.map py) = (xs.zip us).map fun q => (q.2, py q.1) := by
      exact zip_swap xs us
    have e2 : ((xs.zip us).map fun q => (q.2, py q.1)).mergeSort (dataLe false Prod.snd) = ((xs.zip us).mergeSort (dataLe false fun q => py q.1)).map fun q => (q.2, py q.1) := by
      rw [List.map_mergeSort]
      intro a _ b _
      rfl
    have e3 : sortD xs = ((xs.zip us).mergeSort (dataLe false fun q => py q.1)).map Prod.fst := by
      have h := List.map_mergeSort (l := xs.zip us) (r := dataLe false fun q => py q.1) (s := dataLe false py) (f := Prod.fst) (fun a _ b _ => rfl)
      rw [h, List.map_fst_zip (by omega)]
      rfl
    rw [e1, e2, List.map_map]
    refine f _ p ?_ ?_ n
    · rw [e3]
      exact repL_pairs fun q hq => repL_zip ra q ((List.mergeSort_perm _ _).mem_iff.mp hq)
    · rw [List.length_map, List.length_mergeSort, List.length_zip]
      omega
theorem cad_sortG {K : Kz} : CallD K (rSortG K.K) sortGP := by
  intro S H ds vs Qd Q R r q f
  unfold sortGP at q
  split at q
  · rename_i d
    obtain ⟨v, rfl, rv⟩ := r.single
    cases hs : seqOf S d with
    | none => simp only [hs] at q
    | some xs =>
      simp only [hs] at q
      obtain ⟨a, us, rfl, sa, za, ra⟩ := seq_read R rv hs
      exact sortG_of sa ra q.1 fun ws p rr hl n => f.lst R n (by rw [hl]; exact za) rr q.2
  · exact q.elim
theorem cad_sortGO {K : Kz} : CallD K (rSortG K.K) sortGOP := by
  intro S H ds vs Qd Q R r q f
  unfold sortGOP at q
  split at q
  · rename_i d
    obtain ⟨v, rfl, rv⟩ := r.single
    cases hs : seqOf S d with
    | none => simp only [hs] at q
    | some xs =>
      simp only [hs] at q
      obtain ⟨a, us, rfl, sa, za, ra⟩ := seq_read R rv hs
      exact sortG_of sa ra q.1 fun ws p rr hl n => f.own R n (by rw [hl]; exact za) rr q.2
  · exact q.elim
end DL
/-! Turns. -/
namespace DL
open PySem PySem.Spec PyProof.Rows L2
abbrev P2 := Int × Int
abbrev T3 := P2 × P2 × P2
def pD (p : P2) : D := .tup [.int p.1, .int p.2]
def tD (t : T3) : D := .tup [pD t.1, pD t.2.1, pD t.2.2]
def POk (p : P2) : Prop := (0 ≤ p.1 ∧ p.1 < 3) ∧ (p.2 = 1 ∨ p.2 = -1)
def TOk (t : T3) : Prop := POk t.1 ∧ POk t.2.1 ∧ POk t.2.2
def imgC (t : T3) (c : C3) : C3 := (t.1.2 * cAt c t.1.1, t.2.1.2 * cAt c t.2.1.1, t.2.2.2 * cAt c t.2.2.1)
theorem cAt_bd {c : C3} {B : Int} (h : ∀ k, -B ≤ cAt c k ∧ cAt c k ≤ B) (t : T3) (ht : TOk t) (k : Int) : -B ≤ cAt (imgC t c) k ∧ cAt (imgC t c) k ≤ B := by
  obtain ⟨⟨_, h1⟩, ⟨_, h2⟩, ⟨_, h3⟩⟩ := ht
  have b1 := h t.1.1
  have b2 := h t.2.1.1
  have b3 := h t.2.2.1
  refine cAt_all (P := fun z => -B ≤ z ∧ z ≤ B) ?_ ?_ ?_ k
  · rcases h1 with e | e <;> rw [e] <;> omega
  · rcases h2 with e | e <;> rw [e] <;> omega
  · rcases h3 with e | e <;> rw [e] <;> omega
/-! the least coordinates -/
def minI : List Int → Int
  | [] => 0
  | [x] => x
  | x :: xs => min x (minI xs)
theorem minI_spec : ∀ {xs : List Int}, xs ≠ [] → minI xs ∈ xs ∧ ∀ x ∈ xs, minI xs ≤ x
  | [], h => absurd rfl h
  | [x], _ => ⟨by simp [minI], fun y hy => by rw [List.mem_singleton.mp hy]; exact Int.le_refl _⟩
  | x :: y :: xs, _ => by
    obtain ⟨h1, h2⟩ := minI_spec (xs := y :: xs) (by simp)
    have e : minI (x :: y :: xs) = min x (minI (y :: xs)) := rfl
    rw [e]
    refine ⟨?_, fun z hz => ?_⟩
    · by_cases l : x ≤ minI (y :: xs)
      · rw [Int.min_eq_left l]; exact List.mem_cons_self
      · rw [Int.min_eq_right (by omega)]; exact List.mem_cons_of_mem _ h1
    · rcases List.mem_cons.mp hz with rfl | hz
      · omega
      · have := h2 z hz; omega
theorem minI_eq {xs : List Int} {m : Int} (h : m ∈ xs) (l : ∀ x ∈ xs, m ≤ x) : minI xs = m := by
  obtain ⟨h1, h2⟩ := minI_spec (xs := xs) fun e => by subst e; cases h
  have := h2 m h
  have := l _ h1
  omega
/-- the least coordinates of cells -/
def loC (cs : List C3) : C3 := (minI (cs.map (·.1)), minI (cs.map (·.2.1)), minI (cs.map (·.2.2)))
def negC (c : C3) : C3 := (-c.1, -c.2.1, -c.2.2)
def subC (o c : C3) : C3 := (c.1 - o.1, c.2.1 - o.2.1, c.2.2 - o.2.2)
theorem addC_neg (o c : C3) : addC (negC o) c = subC o c := by
  unfold addC negC subC
  simp only [Int.sub_eq_add_neg]
/-- moved to the least coordinates 0, all with one offset, ascending -/
def shiftAll (css : List (List C3)) : List (List C3) := css.map fun cs => csort (cs.map (subC (loC css.flatten)))
def turnAll (t : T3) (css : List (List C3)) : List (List C3) := shiftAll (css.map fun cs => cs.map (imgC t))
/-- lists or tuples of cells, in a list or a tuple -/
inductive AllCells : List D → List (List C3) → Prop
  | nil : AllCells [] []
  | cons {d : D} {cs : List C3} {ds : List D} {css : List (List C3)} : cellsD d cs → AllCells ds css → AllCells (d :: ds) (cs :: css)
theorem AllCells.length : ∀ {ds : List D} {css : List (List C3)}, AllCells ds css → ds.length = css.length
  | _, _, .nil => rfl
  | _, _, .cons _ h => by rw [List.length_cons, List.length_cons, h.length]
theorem AllCells.get : ∀ {ds : List D} {css : List (List C3)} {i : Nat} {d : D}, AllCells ds css → ds[i]? = some d → ∃ cs, css[i]? = some cs ∧ cellsD d cs
  | _, _, i, d, .nil, h => by simp at h
  | _, _, 0, d, .cons hc _, h => by cases h; exact ⟨_, rfl, hc⟩
  | _, _, i + 1, d, .cons _ t, h => t.get (i := i) h
theorem AllCells.mem {ds : List D} {css : List (List C3)} {d : D} (h : AllCells ds css) (hd : d ∈ ds) : ∃ cs, cs ∈ css ∧ cellsD d cs := by
  obtain ⟨i, hi⟩ := List.mem_iff_getElem?.mp hd
  obtain ⟨cs, h1, h2⟩ := h.get hi
  exact ⟨cs, List.mem_of_getElem? h1, h2⟩
theorem AllCells.snoc {d : D} {cs : List C3} (hd : cellsD d cs) : ∀ {ds : List D} {css : List (List C3)}, AllCells ds css → AllCells (ds ++ [d]) (css ++ [cs])
  | _, _, .nil => .cons hd .nil
  | _, _, .cons h t => .cons h (t.snoc hd)
theorem AllCells.lsts : ∀ {css : List (List C3)}, AllCells (css.map fun cs => .lst (cs.map cD)) css
  | [] => .nil
  | _ :: _ => .cons cellsD_lst AllCells.lsts
theorem AllCells.tups : ∀ {css : List (List C3)}, AllCells (css.map fun cs => .tup (cs.map cD)) css
  | [] => .nil
  | _ :: _ => .cons cellsD_tup AllCells.tups
/-- [f(d) for d in ds] of lists of cells -/
theorem lc_solids {i : Nat} {te : ME} {ok : Sto → Prop} {env0 : DEnv} {Q : List D → Sto → Prop} (f : List C3 → D) {S : Sto} {ds : List D} {css : List (List C3)} (hc : AllCells ds css) (ho : ok S) (h : ∀ d cs, cs ∈ css → cellsD d cs → ∀ Q : DQ, Q (f cs) S → te (env0.set i (some d)) S Q) (q : Q (css.map f) S) :
    lcR (dgName i) dYes te ok env0 Q ds [] S := by
  have g : ∀ (ds : List D) (css : List (List C3)), AllCells ds css → ∀ acc : List D, (∀ d cs, cs ∈ css → cellsD d cs → ∀ Q : DQ, Q (f cs) S → te (env0.set i (some d)) S Q) → Q (acc ++ css.map f) S → lcR (dgName i) dYes te ok env0 Q ds acc S := by
    intro ds css hc
    induction hc with
    | nil => intro acc _ q; exact ⟨ho, by rw [List.map_nil, List.append_nil] at q; exact q⟩
    | @cons d cs ds css hd ht ih =>
      intro acc h q
      refine ⟨ho, h d cs List.mem_cons_self hd _ ?_⟩
      refine ih _ (fun d x hx => h d x (List.mem_cons_of_mem _ hx)) ?_
      rw [List.append_assoc]
      exact q
  exact g ds css hc [] h q
/-- [c for cs in css for c in cs] -/
theorem lc2_flat {i j : Nat} {te : ME} {ok : Sto → Prop} {env0 : DEnv} {vs1 : List Nat} {wi1 : MI} {Q : List D → Sto → Prop} {S : Sto} {ds : List D} {css : List (List C3)} (hc : AllCells ds css) (ho : ok S)
    (hw : ∀ d cs, cellsD d cs → ∀ Q : List D → (Sto → Prop) → Sto → Prop, Q (cs.map cD) okT S → wi1 (env0.set i (some d)) S Q)
    (h : ∀ d c, ∀ Q : DQ, Q (cD c) S → te ((dwipe (env0.set i (some d)) vs1).set j (some (cD c))) S Q) (hz : css.flatten.length ≤ sizeLine) (q : Q (css.flatten.map cD) S) :
    lcR2 (dgName i) dYes wi1 (dgName j) dYes te vs1 ok env0 Q ds [] S := by
  have g : ∀ (ds : List D) (css : List (List C3)), AllCells ds css → ∀ acc : List D, acc.length + css.flatten.length ≤ sizeLine → Q (acc ++ css.flatten.map cD) S → lcR2 (dgName i) dYes wi1 (dgName j) dYes te vs1 ok env0 Q ds acc S := by
    intro ds css hc
    induction hc with
    | nil => intro acc _ q; exact ⟨ho, by simpa using q⟩
    | @cons d cs ds css hd ht ih =>
      intro acc hz q
      rw [List.flatten_cons, List.length_append] at hz
      refine ⟨ho, hw d cs hd _ ⟨by rw [List.length_map]; omega, ?_⟩⟩
      refine lc_map id trivial _ _ (fun x hx Q q => ?_) ?_
      · obtain ⟨c, _, rfl⟩ := List.mem_map.mp hx
        exact h d c Q q
      · rw [List.map_id]
        refine ih _ (by rw [List.length_append, List.length_map]; omega) ?_
        rw [List.flatten_cons, List.map_append] at q
        rw [List.append_assoc]
        exact q
  exact g ds css hc [] (by simpa using hz) (by simpa using q)
theorem sort_cells {d : D} {cs : List C3} {S : Sto} {Q : DQ} (h : cellsD d cs) (q : Q (.lst ((csort cs).map cD)) S) : sortP [d] S Q := by
  unfold sortP
  simp only [cellsD_seq h S]
  refine .inr ⟨cs.map cL, by rw [List.map_map]; rfl, fun n hn => ?_, ?_⟩
  · obtain ⟨c, _, rfl⟩ := List.mem_map.mp hn
    exact fun e => nomatch e
  · rw [tsort_cells, List.map_map]
    exact q
theorem zwSeq_of {d : D} {ds : List D} {S : Sto} {Q : List D → (Sto → Prop) → Sto → Prop} (h : seqOf S d = some ds) (q : ∀ ok : Sto → Prop, ok S → Q ds ok S) : zwSeq Q d S := by
  unfold seqOf at h
  cases d with
  | tup xs => cases h; exact q okT trivial
  | lst xs => cases h; exact q okT trivial
  | ref a =>
    unfold lstOf at h
    simp only at h
    cases e : S a with
    | none => simp [e] at h
    | some o =>
      cases o with
      | lst xs =>
        simp only [e] at h
        cases h
        exact zwSeq_ref e (q _ e)
      | _ => simp [e] at h
  | _ => cases h
theorem tup_do {d : D} {ds : List D} {S : Sto} {Q : DQ} (h : seqOf S d = some ds) (q : Q (.tup ds) S) : tupleP [d] S Q := by
  unfold tupleP; simp only [h]; exact q
/-! .. with any target -/
def zLcH (g : MG) (te : ME) (ok : Sto → Prop) (env0 : DEnv) (Q : List D → Sto → Prop) (ds acc : List D) (y : D) (S3 : Sto) : Prop := lcR g dYes te ok env0 Q ds (acc ++ [y]) S3
def zLcG (g : MG) (te : ME) (ok : Sto → Prop) (env0 : DEnv) (Q : List D → Sto → Prop) (ds acc : List D) (env' : DEnv) (S' : Sto) : Prop := te env' S' (zLcH g te ok env0 Q ds acc)
theorem z_lcG {g : MG} {te : ME} {ok : Sto → Prop} {env0 : DEnv} {Q : List D → Sto → Prop} {d : D} {ds acc : List D} {S : Sto} :
    lcR g dYes te ok env0 Q (d :: ds) acc S = (ok S ∧ g d env0 S (zLcG g te ok env0 Q ds acc)) := rfl
theorem z_lcG1 {g : MG} {te : ME} {ok : Sto → Prop} {env0 env' : DEnv} {Q : List D → Sto → Prop} {ds acc : List D} {S : Sto} : zLcG g te ok env0 Q ds acc env' S = te env' S (zLcH g te ok env0 Q ds acc) := rfl
theorem z_lcG2 {g : MG} {te : ME} {ok : Sto → Prop} {env0 : DEnv} {Q : List D → Sto → Prop} {y : D} {ds acc : List D} {S : Sto} : zLcH g te ok env0 Q ds acc y S = lcR g dYes te ok env0 Q ds (acc ++ [y]) S := rfl
theorem z_lcGNil {g : MG} {te : ME} {ok : Sto → Prop} {env0 : DEnv} {Q : List D → Sto → Prop} {acc : List D} {S : Sto} : lcR g dYes te ok env0 Q [] acc S = (ok S ∧ Q acc S) := rfl
theorem seqOf_sub {S S' : Sto} {d : D} {ds : List D} (h : seqOf S d = some ds) (sb : Sub S S') : seqOf S' d = some ds := by
  unfold seqOf at h ⊢
  cases d with
  | ref a =>
    unfold lstOf at h ⊢
    simp only at h ⊢
    cases e : S a with
    | none => simp [e] at h
    | some o =>
      simp only [e] at h
      simp only [sb a o e]
      exact h
  | tup xs => exact h
  | lst xs => exact h
  | _ => cases h
/-- what is walked stands in all stores that keep S0 -/
theorem zwSeq_ext {S0 : Sto} {d : D} {ds : List D} {S : Sto} {Q : List D → (Sto → Prop) → Sto → Prop} (h : seqOf S0 d = some ds) (sb : Sub S0 S) (q : ∀ ok : Sto → Prop, (∀ S', Sub S0 S' → ok S') → Q ds ok S) : zwSeq Q d S := by
  have h' := seqOf_sub h sb
  unfold seqOf at h h'
  cases d with
  | tup xs => cases h; exact q okT fun _ _ => trivial
  | lst xs => cases h; exact q okT fun _ _ => trivial
  | ref a =>
    unfold lstOf at h h'
    simp only at h h'
    cases e : S0 a with
    | none => simp [e] at h
    | some o =>
      cases o with
      | lst xs =>
        simp only [e] at h
        cases h
        exact zwSeq_ref (sb a _ e) (q _ fun S' s => s a _ e)
      | _ => simp [e] at h
  | _ => cases h
theorem min_ints {ns : List Int} {S : Sto} {Q : DQ} (ne : ns ≠ []) (q : Q (.int (minI ns)) S) : minP [.lst (ns.map D.int)] S Q := by
  unfold minP
  simp only [lstOf_lst, Option.bind, intsOf_map]
  refine ⟨ne, fun m hm h => ?_⟩
  rw [← minI_eq hm h]
  exact q
theorem minI_flatten {f : C3 → Int} {css : List (List C3)} (ne : css ≠ []) (h : ∀ cs ∈ css, cs ≠ []) : minI (css.map fun cs => minI (cs.map f)) = minI (css.flatten.map f) := by
  have n1 : (css.map fun cs => minI (cs.map f)) ≠ [] := fun e => ne (List.map_eq_nil_iff.mp e)
  obtain ⟨h1, h2⟩ := minI_spec n1
  symm
  refine minI_eq ?_ fun x hx => ?_
  · obtain ⟨cs, hc, e⟩ := List.mem_map.mp h1
    obtain ⟨k1, _⟩ := minI_spec (xs := cs.map f) fun e => h cs hc (List.map_eq_nil_iff.mp e)
    obtain ⟨c, hcc, e2⟩ := List.mem_map.mp k1
    rw [← e]
    exact List.mem_map.mpr ⟨c, List.mem_flatten.mpr ⟨cs, hc, hcc⟩, e2⟩
  · obtain ⟨c, hc, rfl⟩ := List.mem_map.mp hx
    obtain ⟨cs, hcs, hcc⟩ := List.mem_flatten.mp hc
    have a := h2 _ (List.mem_map.mpr ⟨cs, hcs, rfl⟩)
    obtain ⟨_, k2⟩ := minI_spec (xs := cs.map f) fun e => h cs hcs (List.map_eq_nil_iff.mp e)
    have b := k2 _ (List.mem_map.mpr ⟨c, hcc, rfl⟩)
    omega
theorem loC_at (cs : List C3) (k : Int) (h0 : 0 ≤ k) (h3 : k < 3) : cAt (loC cs) k = minI (cs.map fun c => cAt c k) := by
  obtain rfl | rfl | rfl : k = 0 ∨ k = 1 ∨ k = 2 := by omega <;> rfl
  · rfl
  · rfl
  · rfl
/-! a loop over a written list, turn by turn -/
def zForK (g : MG) (tb : MS) (ok : Sto → Prop) (D0 : DEnds) (ds : List D) (env' : DEnv) (S' : Sto) : Prop := tb { D0 with nx := forR g tb ok D0 ds, ct := forR g tb ok D0 ds, bk := D0.nx } env' S'
theorem z_forCons {g : MG} {tb : MS} {ok : Sto → Prop} {D0 : DEnds} {d : D} {ds : List D} {env : DEnv} {S : Sto} : forR g tb ok D0 (d :: ds) env S = (ok S ∧ g d env S (zForK g tb ok D0 ds)) := rfl
theorem z_forK {g : MG} {tb : MS} {ok : Sto → Prop} {D0 : DEnds} {ds : List D} {env : DEnv} {S : Sto} : zForK g tb ok D0 ds env S = tb { D0 with nx := forR g tb ok D0 ds, ct := forR g tb ok D0 ds, bk := D0.nx } env S := rfl
/-- x in l -/
theorem in_do {neg : Bool} {x y : D} {ds : List D} {S : Sto} {Q : DQ} (h : seqOf S y = some ds) (hx : okE x = true) (hl : okE (.lst ds) = true) (q : Q (.bl (neg != ds.any fun z => eqD z x)) S) : inP neg x y S Q := by
  cases y with
  | str z => cases h
  | _ =>
    cases x <;> (simp only [inP, h]; exact ⟨hx, hl, q⟩)
theorem small_cells {cs : List C3} {m : Nat} (hl : cs.length ≤ m) (h : ∀ c ∈ cs, ∀ k, -(2 ^ 60) < cAt c k ∧ cAt c k < 2 ^ 60) : Small 2 (200 * m + 3) (.lst (cs.map cD)) :=
  small_lst (k := 1) (n := 198) (m := m) (by rw [List.length_map]; exact hl) fun x hx => by
    obtain ⟨c, hc, rfl⟩ := List.mem_map.mp hx
    exact small_cell (h c hc)
theorem small_cellsT {cs : List C3} {m : Nat} (hl : cs.length ≤ m) (h : ∀ c ∈ cs, ∀ k, -(2 ^ 60) < cAt c k ∧ cAt c k < 2 ^ 60) : Small 2 (200 * m + 3) (.tup (cs.map cD)) :=
  small_tup (k := 1) (n := 198) (m := m) (by rw [List.length_map]; exact hl) fun x hx => by
    obtain ⟨c, hc, rfl⟩ := List.mem_map.mp hx
    exact small_cell (h c hc)
theorem small_cellsD {d : D} {cs : List C3} {m : Nat} (hd : cellsD d cs) (hl : cs.length ≤ m) (h : ∀ c ∈ cs, ∀ k, -(2 ^ 60) < cAt c k ∧ cAt c k < 2 ^ 60) : Small 2 (200 * m + 3) d := by
  rcases hd with rfl | rfl
  · exact small_cellsT hl h
  · exact small_cells hl h
theorem eqD_cells {a b : C3} : eqD (cD a) (cD b) = decide (a = b) := by
  obtain ⟨x, y, z⟩ := a
  obtain ⟨u, v, w⟩ := b
  rw [Bool.eq_iff_iff, decide_eq_true_eq]
  simp [eqD, cD, py, pyAll, PyData.eqv, PyData.eqvAll, Prod.ext_iff]
theorem any_cells {cs : List C3} {c : C3} : (cs.map cD).any (fun z => eqD z (cD c)) = decide (c ∈ cs) := by
  rw [Bool.eq_iff_iff, List.any_eq_true, decide_eq_true_eq]
  constructor
  · rintro ⟨z, hz, e⟩
    obtain ⟨b, hb, rfl⟩ := List.mem_map.mp hz
    rw [eqD_cells, decide_eq_true_eq] at e
    rw [← e]; exact hb
  · intro h
    exact ⟨cD c, List.mem_map.mpr ⟨c, h, rfl⟩, by rw [eqD_cells]; exact decide_eq_true rfl⟩
theorem atI_three {x y z k : Int} (h0 : 0 ≤ k) (h3 : k < 3) : atI [D.int x, .int y, .int z] k = some (.int (cAt (x, y, z) k)) := by
  obtain rfl | rfl | rfl : k = 0 ∨ k = 1 ∨ k = 2 := by omega
  · exact atI_0
  · exact atI_1
  · exact atI_2
theorem loC_bd {cs : List C3} {B : Int} (ne : cs ≠ []) (h : ∀ c ∈ cs, ∀ k, -B ≤ cAt c k ∧ cAt c k ≤ B) (k : Int) : -B ≤ cAt (loC cs) k ∧ cAt (loC cs) k ≤ B := by
  have g : ∀ j : Int, -B ≤ minI (cs.map fun c => cAt c j) ∧ minI (cs.map fun c => cAt c j) ≤ B := fun j => by
    obtain ⟨h1, _⟩ := minI_spec (xs := cs.map fun c => cAt c j) fun e => ne (List.map_eq_nil_iff.mp e)
    obtain ⟨c, hc, e⟩ := List.mem_map.mp h1
    rw [← e]
    exact h c hc j
  exact cAt_all (P := fun z => -B ≤ z ∧ z ≤ B) (g 0) (g 1) (g 2) k
theorem subC_bd {o c : C3} {B : Int} (ho : ∀ k, -B ≤ cAt o k ∧ cAt o k ≤ B) (hc : ∀ k, -B ≤ cAt c k ∧ cAt c k ≤ B) (k : Int) : -(2 * B) ≤ cAt (subC o c) k ∧ cAt (subC o c) k ≤ 2 * B := by
  have o0 := ho 0
  have o1 := ho 1
  have o2 := ho 2
  have c0 := hc 0
  have c1 := hc 1
  have c2 := hc 2
  simp only [cAt_0, cAt_1, cAt_2] at o0 o1 o2 c0 c1 c2
  exact cAt_all (P := fun z => -(2 * B) ≤ z ∧ z ≤ 2 * B) (x := c.1 - o.1) (y := c.2.1 - o.2.1) (z := c.2.2 - o.2.2) (by omega) (by omega) (by omega) k
/-- what is shifted has small coordinates -/
theorem shiftAll_bd {css : List (List C3)} {B : Int} (ne : css.flatten ≠ []) (h : ∀ cs ∈ css, ∀ c ∈ cs, ∀ k, -B ≤ cAt c k ∧ cAt c k ≤ B) : ∀ cs ∈ shiftAll css, ∀ c ∈ cs, ∀ k, -(2 * B) ≤ cAt c k ∧ cAt c k ≤ 2 * B := by
  intro cs hcs c hc k
  obtain ⟨cs0, h0, rfl⟩ := List.mem_map.mp hcs
  obtain ⟨c0, hc0, rfl⟩ := List.mem_map.mp ((csort_perm _).mem_iff.mp hc)
  refine subC_bd (loC_bd ne fun c hc => ?_) (h cs0 h0 c0 hc0) k
  obtain ⟨cs1, h1, h2⟩ := List.mem_flatten.mp hc
  exact h cs1 h1 c h2
theorem shiftAll_len {css : List (List C3)} : (shiftAll css).length = css.length := by unfold shiftAll; rw [List.length_map]
theorem turnAll_len {t : T3} {css : List (List C3)} : (turnAll t css).length = css.length := by unfold turnAll; rw [shiftAll_len, List.length_map]
theorem turnAll_bd {t : T3} {css : List (List C3)} {B : Int} (ht : TOk t) (ne : css.flatten ≠ []) (h : ∀ cs ∈ css, ∀ c ∈ cs, ∀ k, -B ≤ cAt c k ∧ cAt c k ≤ B) : ∀ cs ∈ turnAll t css, ∀ c ∈ cs, ∀ k, -(2 * B) ≤ cAt c k ∧ cAt c k ≤ 2 * B := by
  refine shiftAll_bd ?_ ?_
  · rw [← List.map_flatten]
    exact fun e => ne (List.map_eq_nil_iff.mp e)
  · intro cs hcs c hc
    obtain ⟨cs0, h0, rfl⟩ := List.mem_map.mp hcs
    obtain ⟨c0, hc0, rfl⟩ := List.mem_map.mp hc
    exact cAt_bd (h cs0 h0 c0 hc0) t ht
theorem turnAll_mem_len {t : T3} {css : List (List C3)} {m : Nat} (h : ∀ cs ∈ css, cs.length ≤ m) : ∀ cs ∈ turnAll t css, cs.length ≤ m := by
  intro cs hcs
  obtain ⟨cs0, h0, rfl⟩ := List.mem_map.mp hcs
  obtain ⟨cs1, h1, rfl⟩ := List.mem_map.mp h0
  rw [(csort_perm _).length_eq, List.length_map, List.length_map]
  exact h cs1 h1
theorem small_pair {p : P2} (h : POk p) : Small 1 133 (pD p) := small_tup (k := 0) (n := 63) (m := 2) (Nat.le_refl _) fun x hx => by
  obtain ⟨⟨h0, h1⟩, h2⟩ := h
  simp only [List.mem_cons, List.not_mem_nil, or_false] at hx
  rcases hx with rfl | rfl
  · exact small_int (by omega) (by omega)
  · exact small_int (by omega) (by omega)
theorem small_turn {t : T3} (h : TOk t) : Small 2 408 (tD t) := small_tup (k := 1) (n := 133) (m := 3) (Nat.le_refl _) fun x hx => by
  obtain ⟨h0, h1, h2⟩ := h
  simp only [List.mem_cons, List.not_mem_nil, or_false] at hx
  rcases hx with rfl | rfl | rfl
  · exact small_pair h0
  · exact small_pair h1
  · exact small_pair h2
end DL
/-! Expressions that only read: meanwhile all owned objects may be told settled. -/
namespace DL
open PySem PySem.Spec PyProof.Rows L2
def flat : D → Bool
  | .non => true
  | .bl _ => true
  | .int _ => true
  | .str _ => true
  | .ty _ => true
  | _ => false
def S0 : Sto := fun _ => none
def zRead (S : Sto) (Q : DQ) (d : D) (_ : Sto) : Prop := flat d = true ∧ Q d S
def dRead (m : ME) : ME := fun env S Q => ∃ env', LowE S S0 env env' ∧ m env' S0 (zRead S Q)
theorem sub_none {S : Sto} : Sub S0 S := fun a o h => nomatch h
theorem flat_rep {K : Kz} {S S' : Sto} {H : Hp} {d : D} {v : V} (f : flat d = true) (r : Rep K S H d v) : Rep K S' H d v := by
  cases d with
  | non => cases r; exact .non
  | bl b => cases r; exact .bl b
  | int i => cases r; exact .int i
  | str x => cases r; exact .str x
  | ty n => cases r; exact .ty n
  | _ => cases f
theorem de_read {X : Cx} {B : Bs} {e : Expr} {m : ME} (h : ∀ B', DE X B' e m) : DE X B e (dRead m) := by
  refine ⟨fun pins s σ H Q I ⟨env, S, Qd, st, ⟨env', lo, q⟩, f⟩ => ?_⟩
  refine (h ⟨S0, H, B.Z⟩).run pins s σ H Q I ⟨env', S0, _, ⟨(st.low sub_none lo).env, (st.low sub_none lo).rel, Ext.refl⟩, q, fun d S1 v H1 x1 R1 r1 q1 => ?_⟩
  have keep : ∀ a o, H a = some o → H1 a = some o ∧ S1 a = none := fun a o e => x1 a o e rfl
  have x : Ext S H S H1 := fun a o e n => ⟨(keep a o e).1, n⟩
  have R : Rel (kz X B) S H := st.rel
  have R' : Rel (kz X B) S H1 := by
    refine ⟨fun a o e => ?_, fun a z => ?_⟩
    · have p := R.get a o e
      cases o with
      | lst ds => obtain ⟨vs, q, y, r⟩ := p; exact ⟨vs, (keep _ _ q).1, y, RepL.mono R x _ _ r⟩
      | obj C ns ds => obtain ⟨dx, vs, q, y, r⟩ := p; exact ⟨dx, vs, (keep _ _ q).1, y, RepL.mono R x _ _ r⟩
      | dK ks ds => obtain ⟨vs, q, y, r⟩ := p; exact ⟨vs, (keep _ _ q).1, y, RepL.mono R x _ _ r⟩
      | dT ks ds => obtain ⟨vs, q, y, r⟩ := p; exact ⟨vs, (keep _ _ q).1, y, RepL.mono R x _ _ r⟩
      | ts Φ cs => obtain ⟨L, q, y, r⟩ := p; exact ⟨L, (keep _ _ q).1, y, fun t ht => x.tup R.fr (r t ht)⟩
    · obtain ⟨h1, h2⟩ := R.hid a z
      refine ⟨?_, h2⟩
      cases e : H a with
      | none => exact absurd e h1
      | some u => rw [(keep a u e).1]; exact fun z => nomatch z
  exact f d S v H1 x R' (flat_rep q1.1 r1) q1.2
theorem z_read {m : ME} {env : DEnv} {S : Sto} {Q : DQ} : dRead m env S Q = ∃ env', LowE S S0 env env' ∧ m env' S0 (zRead S Q) := rfl
theorem z_read1 {S S' : Sto} {Q : DQ} {d : D} : zRead S Q d S' = (flat d = true ∧ Q d S) := rfl
theorem read_do {m : ME} {env env' : DEnv} {S : Sto} {Q : DQ} (lo : LowE S S0 env env') (q : m env' S0 (zRead S Q)) : dRead m env S Q := ⟨env', lo, q⟩
theorem z_low {m : ME} {env : DEnv} {S : Sto} {Q : DQ} : dLow m env S Q = m env S (lows Q) := rfl
/-- a slot stays as it is -/
theorem lowE_same {S S' : Sto} : ∀ env : DEnv, LowE S S' env env
  | [] => .nil
  | none :: env => .gone (lowE_same env)
  | some d :: env => .keep (.same d) (lowE_same env)
/-- a list that was made: told settled -/
theorem lows_lst {Q : DQ} {S : Sto} {a : Addr} {ds : List D} (h : S a = some (.lst ds)) (q : Q (.lst ds) (cut S a)) : lows Q (.ref a) S := ⟨.lst ds, cut S a, sub_cut, .lst h cut_same, q⟩
theorem lows_new {Q : DQ} {S : Sto} {a : Addr} {ds : List D} (n : S a = none) (q : Q (.lst ds) S) : lows Q (.ref a) (put S a (.lst ds)) := lows_lst put_same (by rw [cut_put n]; exact q)
end DL
/-! Constants of a module that are nested tuples. -/
namespace DL
open PySem PySem.Spec PyProof.Rows L2
mutual
/-- the value u of the written part reads as d -/
def kD (K : PySem.W.Frag) : D → Value → Bool
  | .non, .none => true
  | .bl b, .bool c => b == c
  | .int i, .int j _ => i == j
  | .str x, .str y _ => x == y
  | .tup ds, .ref a => match K.lookup a with
    | some o => (match o.cls with
      | .type n => n == "tuple"
      | _ => false) && (match o.data with
      | .seq its _ => decide (its.size ≤ 1000) && kDs K ds its.toList
      | _ => false)
    | none => false
  | _, _ => false
def kDs (K : PySem.W.Frag) : List D → List Value → Bool
  | [], [] => true
  | d :: ds, v :: vs => kD K d v && kDs K ds vs
  | _, _ => false
end
mutual
theorem kD_rep {K : Kz} : ∀ (d : D) (u : Value), kD K.K d u = true → ∃ v, RelV v u ∧ ∀ S H, Rep K S H d v
  | .non, u, h => by
    cases u with
    | none => exact ⟨.non, rfl, fun _ _ => .non⟩
    | _ => simp [kD] at h
  | .bl b, u, h => by
    cases u with
    | bool c =>
      simp only [kD, beq_iff_eq] at h
      subst h
      exact ⟨.bl b, rfl, fun _ _ => .bl b⟩
    | _ => simp [kD] at h
  | .int i, u, h => by
    cases u with
    | int j t =>
      simp only [kD, beq_iff_eq] at h
      subst h
      exact ⟨.int i, ⟨t, rfl⟩, fun _ _ => .int i⟩
    | _ => simp [kD] at h
  | .str x, u, h => by
    cases u with
    | str y t =>
      simp only [kD, beq_iff_eq] at h
      subst h
      exact ⟨.str x, ⟨t, rfl⟩, fun _ _ => .str x⟩
    | _ => simp [kD] at h
  | .tup ds, u, h => by
    cases u with
    | ref a =>
      simp only [kD] at h
      cases hk : K.K.lookup a with
      | none => rw [hk] at h; cases h
      | some o =>
        rw [hk] at h
        simp only [Bool.and_eq_true] at h
        obtain ⟨hc, hd⟩ := h
        have hc' : o.cls = .type "tuple" := by
          cases e : o.cls with
          | type n => rw [e] at hc; simp only [beq_iff_eq] at hc; rw [hc]
          | _ => rw [e] at hc; cases hc
        cases e : o.data with
        | seq its n =>
          rw [e] at hd
          simp only [Bool.and_eq_true, decide_eq_true_eq] at hd
          obtain ⟨vs, rv, rr⟩ := kDs_rep ds its.toList hd.2
          have hl : vs.length = its.size := by rw [rv.length]; simp
          exact ⟨.ref a, rfl, fun S H => .tup (.inr ⟨o, its, n, hk, hc', e, by rw [sizeLine_eq]; omega, rv⟩) (by rw [hl, sizeLine_eq]; omega) (rr S H)⟩
        | _ => rw [e] at hd; cases hd
    | _ => simp [kD] at h
  | .ref _, u, h => by simp [kD] at h
  | .ty _, u, h => by simp [kD] at h
  | .lst _, u, h => by simp [kD] at h
  | .obj _ _ _, u, h => by simp [kD] at h
  | .dK _ _, u, h => by simp [kD] at h
  | .dT _ _, u, h => by simp [kD] at h
theorem kDs_rep {K : Kz} : ∀ (ds : List D) (us : List Value), kDs K.K ds us = true → ∃ vs, Vals vs us ∧ ∀ S H, RepL K S H ds vs
  | [], us, h => by
    cases us with
    | nil => exact ⟨[], .nil, fun _ _ => .nil⟩
    | cons _ _ => simp [kDs] at h
  | d :: ds, us, h => by
    cases us with
    | nil => simp [kDs] at h
    | cons u us =>
      simp only [kDs, Bool.and_eq_true] at h
      obtain ⟨v, r, h1⟩ := kD_rep d u h.1
      obtain ⟨vs, rs, h2⟩ := kDs_rep ds us h.2
      exact ⟨v :: vs, .cons r rs, fun S H => .cons (h1 S H) (h2 S H)⟩
end
theorem de_globD {X : Cx} {B : Bs} {x : Str} {d : D} {pos : Pos} (hg : Gl X x) (h : ∃ u, X.mg x = some u ∧ kD X.K d u = true) (hd : (x == ("__debug__" : Str)) = false := by decide) : DE X B (.Name x pos) (dC d) := by
  obtain ⟨u, hm, hk⟩ := h
  obtain ⟨v, r, rd⟩ := kD_rep (K := kz X B) d u hk
  exact de_glob hg hm r rd hd
/-! one sorted list -/
theorem sort_strict {α : Type} {lt : α → α → Bool} : ∀ {l m : List α}, l.Pairwise (fun a b => lt a b = true) → m.Pairwise (fun a b => lt b a = false) → m.Perm l → m = l
  | [], m, _, _, p => List.Perm.eq_nil p
  | x :: l, [], _, _, p => absurd p.length_eq (by simp)
  | x :: l, y :: m, hl, hm, p => by
    have e : y = x := by
      rcases List.mem_cons.mp (p.mem_iff.mp (List.mem_cons_self (a := y) (l := m))) with e | hy
      · exact e
      · have h1 := (List.pairwise_cons.mp hl).1 y hy
        rcases List.mem_cons.mp (p.mem_iff.mpr (List.mem_cons_self (a := x) (l := l))) with e | hx
        · exact e.symm
        · have h2 := (List.pairwise_cons.mp hm).1 x hx
          rw [h1] at h2; cases h2
    subst e
    rw [sort_strict (List.pairwise_cons.mp hl).2 (List.pairwise_cons.mp hm).2 p.cons_inv]
theorem sortD_srtd (m : List D) : (sortD m).Pairwise (fun a b => ltD b a = false) := by
  have h := PySem.W.sort_pairwise (PySem.W.sortLe_total (PyProof.Rows.listOrd PyProof.Rows.itemOrd) false fun b : D => PySem.W.keyToks (py b)) m
  refine h.imp fun {a b} h => ?_
  have h : (!(PyProof.Rows.listOrd PyProof.Rows.itemOrd).blt (PySem.W.keyToks (py b)) (PySem.W.keyToks (py a))) = true := h
  show (PyProof.Rows.listOrd PyProof.Rows.itemOrd).blt (PySem.W.keyToks (py b)) (PySem.W.keyToks (py a)) = false
  simpa using h
theorem sortD_of {l m : List D} (h : l.Pairwise fun a b => ltD a b = true) (p : m.Perm l) : sortD m = l := sort_strict h (sortD_srtd m) ((List.mergeSort_perm _ _).trans p)
end DL
/-! Dicts whose keys are tuples: comprehensions, in, del, len. -/
namespace DL
open PySem PySem.Spec PyProof.Rows L2
section
variable {X : Cx} {pins : List (Addr × Obj)} {σ : L2.St} {H : Hp} {s : Shared} {E : Value → Shared → Prop} {A : Around}
abbrev KLs := List L2.Key
/-- d[b] = r, into the dict itself -/
theorem dT_set {D b : Addr} {kvs : List (KLs × V)} {k : KLs} {v : V} {r : Value} {Q : Unit → Shared → Prop} (hu : A.units < cLine) (I : Inv X pins σ H s) (hD : H D = some (.dT kvs)) (hz : kvs.length < sizeLine) (hb : H b = some (.tup (k.map kV))) (rv : RelV v r)
    (h : ∀ s', Inv X pins σ (upd H D (.dT (putK kvs k v))) s' → Q () s') : wpAny (model X.prog X.w) A (dictSet D (.ref b) r) Q E s := by
  obtain ⟨z, hd, xs, rel, dd⟩ := dt_of I.hok hD
  have lx : xs.length ≤ sizeLine := by have := Paired.length rel; omega
  have lp : (putK kvs k v).length ≤ sizeLine := by have := length_putK kvs k v; omega
  refine wpAny_dictSet_heap (hsz := lx) hu (key_of I.hok hb) dd fun h' dd' hs => h _ ?_
  obtain ⟨o, es, ep, ho, c1, c2, c3, _, c5⟩ := dd'
  refine d_write I (by rw [hD]; exact True.intro) hs ⟨o, ho⟩ ⟨lp, hd, _, (rel.put k hb rv).keeps fun c ys ec => ?_, o, es, ep, ho, c1, c2, c3, c5⟩
  rw [upd_ne (ne_of ec hD (fun z => nomatch z))]; exact ec
/-- del d[b] -/
theorem dT_del {D b : Addr} {kvs : List (KLs × V)} {k : KLs} {Q : Unit → Shared → Prop} (hu : A.units + 1 < cLine) (I : Inv X pins σ H s) (hD : H D = some (.dT kvs)) (hb : H b = some (.tup (k.map kV))) (l : (valV kvs k).isSome = true)
    (h : ∀ s', Inv X pins σ (upd H D (.dT (dropK kvs k))) s' → Q () s') : wpAny (model X.prog X.w) A (delItem (.ref D) (.ref b)) Q E s := by
  obtain ⟨z, hd, xs, rel, dd⟩ := dt_of I.hok hD
  have lx : xs.length ≤ sizeLine := by have := Paired.length rel; omega
  refine wpAny_delItem_slot dd.typeIs (by decide) PySem.F.slot_dict_delitem
    (call_meetsIn PySem.F.slot_dict_delitem dd.typeIs PySem.F.entry_dict_delitem (PySem.F.args_dict_delitem_2 _ _) (meetsH_dict_delitem (tupleKind (mixKind X.prog X.w)) D b hd)
      ⟨tupleKind_room_in1 hu, k, xs, key_of I.hok hb, dd, lx, fun p hp h' dd' hs => ?_, fun hn => ?_⟩)
  · obtain ⟨o, es, ep, ho, c1, c2, c3, _, c5⟩ := dd'
    refine h _ (d_write I (by rw [hD]; exact True.intro) hs ⟨o, ho⟩ ⟨Nat.le_trans (dropK_le kvs k) z, hd, _, (L2.DX.KT_drop k rel).keeps (fun c ys ec => ?_), o, es, ep, ho, c1, c2, c3, c5⟩)
    rw [upd_ne (ne_of ec hD (fun z => nomatch z))]; exact ec
  · exfalso
    have r := rel.val k
    rw [hn] at r
    cases e : valV kvs k with
    | none => rw [e] at l; cases l
    | some v => rw [e] at r; exact r.elim
end
def sDelT (td ty : TE) : TS := fun D σ H => td σ H fun x H1 => ty σ H1 fun y H2 => ∃ a b kvs k, x = .ref a ∧ y = .ref b ∧ H2 a = some (.dT kvs) ∧ H2 b = some (.tup (k.map kV)) ∧ (valV kvs k).isSome = true ∧ D.nx σ (upd H2 a (.dT (dropK kvs k)))
section
variable {X : Cx} {o i e : Expr} {pos tpos : Pos} {td ty : TE}
theorem ps_delT (hu : X.A.units + 1 < cLine) (ho : PE X o td) (hi : PE X i ty) : PS X (.Delete [.Subscript o i tpos] pos) (sDelT td ty) := by
  refine ⟨fun pins s σ H D I h => ?_⟩
  refine wpAny_Delete (wpAny_deleteEach_cons (wpAny_delete_Subscript (thn (ho.run pins s σ H _ I h) fun u s1 ⟨x, H1, I1, rx, q1⟩ => thn (hi.run pins s1 σ H1 _ I1 q1) fun iv s2 ⟨y, H2, I2, ry, a, b, kvs, k, ex, ey, ea, eb, l, q2⟩ => ?_)))
  subst ex ey
  obtain rfl : u = Value.ref a := rx
  obtain rfl : iv = Value.ref b := ry
  exact dT_del hu I2 ea eb l fun s3 I3 => wpAny_deleteEach_nil ⟨σ, _, I3, q2⟩
theorem op_inT (hu : X.A.units + 1 < cLine) : OpR X (compareOp .In) (fun x y H Q => ∃ a o, y = .ref a ∧ DGet H a x o ∧ Q (.bl o.isSome) H) := by
  intro pins s σ H x y v u Q I rx ry ⟨a, o, ey, g, q⟩
  subst ey
  obtain rfl : u = Value.ref a := ry
  exact d_in hu I g rx fun s' I' => ⟨.bl _, H, I', rfl, q⟩
theorem op_notInT (hu : X.A.units + 1 < cLine) : OpR X (compareOp .NotIn) (fun x y H Q => ∃ a o, y = .ref a ∧ DGet H a x o ∧ Q (.bl (!o.isSome)) H) := by
  intro pins s σ H x y v u Q I rx ry ⟨a, o, ey, g, q⟩
  subst ey
  obtain rfl : u = Value.ref a := ry
  exact d_notIn hu I g rx fun s' I' => ⟨.bl _, H, I', rfl, q⟩
end
section
variable {X : Cx}
/-- {k: v for target in iter if ..}, keys tuples: D the new dict -/
def tDcT (wi : TI) (g : TG) (tt : TT) (tk tv : TE) (vs : List Nat) : TE := fun σ H Q => wi σ H fun J H1 => ∀ D, H1 D = none → ∃ W : Nat → Nat → Hp → Prop, (∃ m, W 0 m (upd H1 D (.dT []))) ∧ ∀ i m H, W i m H →
  (J.stop i H ∧ Q (.ref D) H) ∨ (J.go i H ∧ ∃ Nx : Hp → Prop, (∀ H', Nx H' → ∃ m', m' < m ∧ W (i + 1) m' H') ∧ ∀ x H', J.yld i H x H' → g x (L2.wipe σ vs) H' fun σ2 H2 => L2.wipe σ2 vs = L2.wipe σ vs ∧ tt σ2 H2 fun b H3 =>
    if b = true then tk σ2 H3 fun y H4 => tv σ2 H4 fun z H5 => ∃ kvs k c, y = .ref c ∧ H5 c = some (.tup (k.map kV)) ∧ H5 D = some (.dT kvs) ∧ kvs.length < sizeLine ∧ Nx (upd H5 D (.dT (putK kvs k z))) else Nx H3)
variable {kx vx tg iter : Expr} {ifs : List Expr} {scope : Scope} {own : List (Str × Nat)} {pos : Pos} {wi : TI} {g : TG} {tt : TT} {tk tv : TE}
theorem dcT_core {pins : List (Addr × Obj)} {s : Shared} {σ : L2.St} {H : Hp} {Q : VK} {pos' : Pos} {use : Option (Value → Sem Unit)} {Qf : Value → Shared → Prop} (hu : X.A.units < cLine) (hc : X.calm = true) (hN : X.N.Nodup) (I : Inv X pins σ H s) (hi : PI X tg iter wi) (ok : BlkOk X.N X.env.scope scope own)
    (hg : ∀ (s : Shared) (H : Hp) (C : Addr) (cl : List (Str × Addr)) (fp : List Addr), PG (X.blk s H scope (compEnvC scope cl C X.env) fp) tg g) (ht : ∀ (s : Shared) (H : Hp) (C : Addr) (cl : List (Str × Addr)) (fp : List Addr), PTs (X.blk s H scope (compEnvC scope cl C X.env) fp) ifs tt)
    (hk : ∀ (s : Shared) (H : Hp) (C : Addr) (cl : List (Str × Addr)) (fp : List Addr), PE (X.blk s H scope (compEnvC scope cl C X.env) fp) kx tk)
    (he : ∀ (s : Shared) (H : Hp) (C : Addr) (cl : List (Str × Addr)) (fp : List Addr), PE (X.blk s H scope (compEnvC scope cl C X.env) fp) vx tv) (hs : ∀ x, foldedSetIterable iter X.env x = pure x)
    (h : tDcT wi g tt tk tv (own.map (·.2)) σ H Q)
    (hRR : ∀ D C s' m H', Inv X pins σ H' s' → Q (.ref D) H' → s'.heap.Ns C m → FpOk X pins H' C → compPost (model X.prog X.w) X.A X.xe use Qf (.ref D) C (.ok .next) s') :
    wpAny (model X.prog X.w) X.A (comprehension (.DictComp kx vx [⟨tg, iter, ifs, 0⟩] scope pos) scope X.env pos' newDict false (eval iter X.env) use) Qf X.xe s := by
  have cells : ∀ y ∈ scope.names, y.2 = .free → ∃ c, X.env.cells.lookup y.1 = some c := fun y hy e => (ok.free y hy e).elim (fun k => I.ok.has _ (.inl k)) fun k => I.ok.has _ (.inr k)
  refine wpAny_comprehension_free (use := use) rfl hs (closure_ok cells) ok.kind (fun y hy e => by rw [ok.uniq y hy, e]) (thn (hi.run pins s σ H _ I h) fun xv s1 hx => thn hx fun itv s2 ⟨it, fp, tn, J, H2, e, I2, T, st2, f2, q⟩ => ?_)
  subst e
  refine wpAny_newObj_type (newEnv_comp ?_)
  obtain ⟨D, hD⟩ : ∃ D, s2.heap.objs.size = D := ⟨_, rfl⟩
  obtain ⟨W, ⟨m0, w0⟩, turn⟩ := q D (I2.hok.fresh (Nat.le_of_eq hD))
  obtain ⟨s3, hs3⟩ : ∃ s3 : Shared, ({ s2 with heap := s2.heap.push { cls := .type "dict", data := .dict #[] } } : Shared) = s3 := ⟨_, rfl⟩
  have h3 : s3.heap = s2.heap.push { cls := .type "dict", data := .dict #[] } := by rw [← hs3]
  obtain ⟨H3, hH3⟩ : ∃ H3, upd H2 D (.dT []) = H3 := ⟨_, rfl⟩
  have I3 : Inv X pins σ H3 s3 := by
    rw [← hs3, ← hH3]
    refine I2.laid (t' := s2.toks) (fun b o e => Heap.get?_push_of_some _ e) (Nat.le_of_eq hD) ?_
    rw [← hD]
    exact dt_empty s2.heap I2.big
  have f3 : ∀ b ∈ fp, FpOk X pins H3 b ∧ b < s3.heap.objs.size := fun b hb => by
    obtain ⟨o, eo, _⟩ := T.obj _ _ st2 b hb
    have lt : b < s2.heap.objs.size := Heap.lt_size eo
    refine ⟨⟨?_, (f2 b hb).2⟩, by rw [h3, Heap.size_push]; exact Nat.lt_succ_of_lt lt⟩
    rw [← hH3, upd_ne (by rw [← hD]; exact Nat.ne_of_lt lt)]
    exact (f2 b hb).1
  have st3 : tn 0 s3.heap := T.keep _ _ _ st2 fun b _ o e => by rw [h3]; exact Heap.get?_push_of_some _ e
  have I4 := block_start I3 ok hN f3
  obtain ⟨cl, hcl⟩ : ∃ cl, cellsFrom (s3.heap.objs.size + 1) scope.names (cloFrom X.env.cells scope.names []) = cl := ⟨_, rfl⟩
  rw [hcl] at I4
  have pg := hg s3 H3 s3.heap.objs.size cl fp
  have pt := ht s3 H3 s3.heap.objs.size cl fp
  have pk := hk s3 H3 s3.heap.objs.size cl fp
  have pe := he s3 H3 s3.heap.objs.size cl fp
  rw [hs3, hD, hcl]
  obtain ⟨ce, hce⟩ : ∃ ce, compEnvC scope cl s3.heap.objs.size X.env = ce := ⟨_, rfl⟩
  rw [hce] at I4 pg pt pk pe
  have cL : ce.locals = s3.heap.objs.size := by subst hce; rfl
  obtain ⟨s4, hs4⟩ : ∃ s4 : Shared, ({ s3 with heap := pushCells (s3.heap.push { cls := .type "dict", data := .dict #[] }) scope.names } : Shared) = s4 := ⟨_, rfl⟩
  rw [hs4] at I4
  have st4 : tn 0 s4.heap := T.keep _ _ _ st3 fun b _ o e => by rw [← hs4]; exact pushCells_keeps _ _ _ _ (Heap.get?_push_of_some _ e)
  have stays : ∀ {σ' : L2.St} {H' : Hp} {s' : Shared}, Inv (X.blk s3 H3 scope ce fp) [] σ' H' s' → (∀ b ∈ fp, H' b = none) → ∀ b ∈ fp, FpOk (X.blk s3 H3 scope ce fp) [] H' b := fun I' hn b hb =>
    ⟨hn b hb, (I'.ok.exf b hb).1, I'.ok.exfs b hb, .inl hb, fun x c e => (I'.ok.exf b hb).2 x c e, fun p hp => absurd hp (by simp)⟩
  have loop : codeAny (model X.prog X.w) X.A (.compLoop (.DictComp kx vx [⟨tg, iter, ifs, 0⟩] scope pos) 0 (.ref it) (.ref D) ce) (compPost (model X.prog X.w) X.A X.xe use Qf (.ref D) s3.heap.objs.size) s4 := by
    refine compLoop_anyD (fun n s' => ∃ i H', Inv (X.blk s3 H3 scope ce fp) [] (L2.wipe σ (own.map (·.2))) H' s' ∧ tn i s'.heap ∧ (∀ b ∈ fp, H' b = none) ∧ W i n H') ?_ m0 ⟨0, H3, I4, st4, fun b hb => (f3 b hb).1.1, by rw [← hH3]; exact w0⟩
    rintro n s5 ⟨i, H5, I5, st5, n5, w5⟩
    rcases turn i n H5 w5 with ⟨stop, qq⟩ | ⟨go, Nx, hNx, step⟩
    · refine thnF (T.done (X.blk s3 H3 scope ce fp) rfl rfl rfl hc i [] s5 _ H5 (fun _ _ => False) I5 (stays I5 n5) st5 stop) fun r s6 ⟨hr, I6⟩ => ?_
      subst hr
      have I7 : Inv X pins σ H5 s6 := I3.call' (ch := fp) I6.os I6.base I6.hok I6.bare fun b hb => ⟨(f3 b hb).1.2.2.2.1, (f3 b hb).1.2.1, (f3 b hb).1.2.2.2.2.1, (f3 b hb).1.2.2.2.2.2⟩
      have nC : H5 ce.locals = none := I6.free
      obtain ⟨m, hn, _⟩ := I6.loc
      have hn : s6.heap.Ns ce.locals m := hn
      rw [cL] at nC hn
      exact hRR D _ s6 m H5 I7 qq hn (I3.fpOk (Nat.le_refl _) nC)
    · refine thnF (T.item (X.blk s3 H3 scope ce fp) rfl rfl rfl hc i [] s5 _ H5 (fun _ _ => False) I5 (stays I5 n5) st5 go) fun r s6 ⟨u, hr, h6⟩ => ?_
      subst hr
      refine thnF h6 fun _ s7 ⟨x, H7, I7, r7, y7, st7, n7⟩ => ?_
      refine thnF (pg.run _ s7 _ H7 x u _ (I7.pinned (stays I7 n7) (T.obj _ _ st7)) r7 (step x H7 y7)) fun _ s8 ⟨σ8, H8, I8, hw8, q8⟩ => ?_
      refine thnF (pt.run _ s8 σ8 H8 _ I8 q8) fun b s9 ⟨H9, I9, q9⟩ => ?_
      have fin : ∀ {s' : Shared} {H' : Hp}, Inv (X.blk s3 H3 scope ce fp) ([] ++ pinsAt fp s7.heap) σ8 H' s' → Nx H' → ∃ m, m < n ∧ ∃ i H', Inv (X.blk s3 H3 scope ce fp) [] (L2.wipe σ (own.map (·.2))) H' s' ∧ tn i s'.heap ∧ (∀ b ∈ fp, H' b = none) ∧ W i m H' := fun {s' H'} I' nx => by
        obtain ⟨m', hm, w'⟩ := hNx H' nx
        have pin : ∀ b ∈ fp, ∀ o, s7.heap.get? b = some o → s'.heap.get? b = some o ∧ H' b = none := fun b hb o e =>
          ⟨(I'.pin (b, o) (List.mem_append_right _ (List.mem_append_right _ (mem_pinsAt hb e)))).1, (I'.pin (b, o) (List.mem_append_right _ (List.mem_append_right _ (mem_pinsAt hb e)))).2.1⟩
        refine ⟨m', hm, i + 1, H', (I'.unpinned (pins := [])).weak (by rw [← hw8, wipe_length]) (fun j v e => by rw [← hw8] at e; exact (wipe_some e).1), T.keep _ _ _ st7 fun b hb o e => (pin b hb o e).1, fun b hb => ?_, w'⟩
        obtain ⟨o, e, _⟩ := T.obj _ _ st7 b hb
        exact (pin b hb o e).2
      cases b with
      | false =>
        simp only [Bool.false_eq_true, if_false] at q9 ⊢
        exact fin I9 q9
      | true =>
        simp only [if_true] at q9 ⊢
        refine thnF (pk.run _ s9 σ8 H9 _ I9 q9) fun z s10 ⟨yk, H10, I10, r10, q10⟩ => ?_
        refine thnF (pe.run _ s10 σ8 H10 _ I10 q10) fun z2 s11 ⟨yv, H11, I11, r11, kvs, k, c, ek, hc11, hD11, hz11, nx⟩ => ?_
        subst ek
        obtain rfl : z = Value.ref c := r10
        exact dT_set (X := X.blk s3 H3 scope ce fp) hu I11 hD11 hz11 hc11 r11 fun s12 I12 => fin I12 nx
  have start := codeAny_compStart_dict loop (T.self X.A 0 _ _ _ st4 loop)
  rw [← hs4, ← hce] at start
  exact start
theorem pe_dcT (hu : X.A.units < cLine) (hc : X.calm = true) (hN : X.N.Nodup) (hi : PI X tg iter wi) (ok : BlkOk X.N X.env.scope scope own)
    (hg : ∀ (s : Shared) (H : Hp) (C : Addr) (cl : List (Str × Addr)) (fp : List Addr), PG (X.blk s H scope (compEnvC scope cl C X.env) fp) tg g) (ht : ∀ (s : Shared) (H : Hp) (C : Addr) (cl : List (Str × Addr)) (fp : List Addr), PTs (X.blk s H scope (compEnvC scope cl C X.env) fp) ifs tt)
    (hk : ∀ (s : Shared) (H : Hp) (C : Addr) (cl : List (Str × Addr)) (fp : List Addr), PE (X.blk s H scope (compEnvC scope cl C X.env) fp) kx tk)
    (he : ∀ (s : Shared) (H : Hp) (C : Addr) (cl : List (Str × Addr)) (fp : List Addr), PE (X.blk s H scope (compEnvC scope cl C X.env) fp) vx tv) (hs : ∀ x, foldedSetIterable iter X.env x = pure x := by intro _; rfl) :
    PE X (.DictComp kx vx [⟨tg, iter, ifs, 0⟩] scope pos) (tDcT wi g tt tk tv (own.map (·.2))) := by
  refine ⟨fun pins s σ H Q I h => ?_⟩
  rw [arm_eval_DictComp]
  exact dcT_core hu hc hN I hi ok hg ht hk he hs h fun D C s' m H' I' q hn f => ⟨m, hn, fun h'' sb => ⟨.ref D, H', I'.turned (t' := s'.toks) (fun b o hb e => (sb.2 b hb).trans e) f.1 f.2.1 f.2.2.2.1 f.2.2.2.2.1 f.2.2.2.2.2, rfl, q⟩⟩
theorem ps_setDcT {i : Nat} {y : Str} {py spos : Pos} (hu : X.A.units < cLine) (hc : X.calm = true) (hN : X.N.Nodup) (hy : X.N[i]? = some y) (hyl : X.env.scope.names.lookup y = some .local)
    (hsw : swapsWith (.DictComp kx vx [⟨tg, iter, ifs, 0⟩] scope pos) (some (.Name y py)) spos.line X.env = pure true) (hi : PI X tg iter wi) (ok : BlkOk X.N X.env.scope scope own)
    (hg : ∀ (s : Shared) (H : Hp) (C : Addr) (cl : List (Str × Addr)) (fp : List Addr), PG (X.blk s H scope (compEnvC scope cl C X.env) fp) tg g) (ht : ∀ (s : Shared) (H : Hp) (C : Addr) (cl : List (Str × Addr)) (fp : List Addr), PTs (X.blk s H scope (compEnvC scope cl C X.env) fp) ifs tt)
    (hk : ∀ (s : Shared) (H : Hp) (C : Addr) (cl : List (Str × Addr)) (fp : List Addr), PE (X.blk s H scope (compEnvC scope cl C X.env) fp) kx tk)
    (he : ∀ (s : Shared) (H : Hp) (C : Addr) (cl : List (Str × Addr)) (fp : List Addr), PE (X.blk s H scope (compEnvC scope cl C X.env) fp) vx tv) (hs : ∀ x, foldedSetIterable iter X.env x = pure x := by intro _; rfl) :
    PS X (.Assign [.Name y py] (.DictComp kx vx [⟨tg, iter, ifs, 0⟩] scope pos) spos) (tAsg (tDcT wi g tt tk tv (own.map (·.2))) (gName i)) := by
  refine ⟨fun pins s σ H D I h => ?_⟩
  rw [exec_Assign_Name_used _ _ _ _ hsw]
  refine wpAny_bind (wpAny_standAt (wpAny_bind ?_))
  show wpAny _ X.A (do let _ ← comprehension (.DictComp kx vx [⟨tg, iter, ifs, 0⟩] scope pos) scope X.env (firstIterPos [⟨tg, iter, ifs, 0⟩] pos) newDict false (eval iter X.env) (some (assign (.Name y py) X.env))) _ _ s
  have h : tDcT wi g tt tk tv (own.map (·.2)) σ H (fun x H1 => gName i x σ H1 D.nx) := h
  refine wpAny_bind (thn (dcT_core (Qf := fun _ s' => SP X pins D .next s') hu hc hN I hi ok hg ht hk he hs h fun L C s' m H' I' q hn f => ?_) fun _ s' hq => wpAny_pure (wpAny_pure hq))
  show wpAny _ _ (assign (.Name y py) X.env (.ref L)) _ _ _
  refine wpAny_assign_Name (store_ok2 (v := V.ref L) I' hN hy (.inl hyl) rfl (fun s2 I2 ⟨a, sb, ha⟩ => ?_) (.inr hyl))
  have haC : C ≠ a := by
    rcases ha with z | z
    · rw [z]; exact f.2.1
    · exact fun e => f.2.2.2.2.1 y a z e.symm
  exact ⟨m, hn.sameBut sb haC, fun h3 sb3 => ⟨_, H', I2.turned (t' := s2.toks) (fun b o hb e => (sb3.2 b hb).trans e) f.1 f.2.1 f.2.2.2.1 f.2.2.2.2.1 f.2.2.2.2.2, q⟩⟩
end
end DL
/-! Dicts whose keys are cells, over trees. -/
namespace DL
open PySem PySem.Spec PyProof.Rows L2
def kC (c : C3) : KLs := [.inl c.1, .inl c.2.1, .inl c.2.2]
theorem kC_inj {a b : C3} (h : kC a = kC b) : a = b := by
  obtain ⟨x, y, z⟩ := a
  obtain ⟨u, v, w⟩ := b
  unfold kC at h
  simp at h
  simp [h]
def isIntV : Value → Bool
  | .int _ _ => true
  | _ => false
/-- no tuple of the written part is a cell -/
def noCell (K : PySem.W.Frag) : Bool := K.all fun p => match p.2.cls with
  | .type n => !(n == "tuple") || (match p.2.data with
    | .seq its _ => !(its.size == 3 && its.toList.all isIntV)
    | _ => true)
  | _ => true
theorem lookup_mem {K : PySem.W.Frag} {a : Addr} {o : Obj} (h : K.lookup a = some o) : (a, o) ∈ K := by
  induction K with
  | nil => cases h
  | cons p K ih =>
    rw [List.lookup_cons] at h
    split at h
    · rename_i e
      have : a = p.1 := by simpa using e
      cases h
      rw [this]; exact List.mem_cons_self
    · exact List.mem_cons_of_mem _ (ih h)
/-- a cell's tuple is one that was made -/
theorem cell_made {K : Kz} {S : Sto} {H : Hp} {c : C3} {v : V} (nc : noCell K.K = true) (r : Rep K S H (cD c) v) : ∃ b, v = .ref b ∧ H b = some (.tup ((kC c).map kV)) := by
  unfold cD at r
  cases r with
  | @tup b vs _ sa za ra =>
    have e := ints_read (bs := [c.1, c.2.1, c.2.2]) ra rfl
    subst e
    refine ⟨b, rfl, ?_⟩
    rcases sa with sa | ⟨o, its, n, hk, hc, hd, hz, hv⟩
    · exact sa
    · exfalso
      have h := List.all_eq_true.mp nc _ (lookup_mem hk)
      simp only [hc, hd] at h
      have hl : its.size = 3 := by
        have := hv.length
        simpa using this.symm
      have hi : its.toList.all isIntV = true := by
        have : ∀ {ns : List Int} {us : List Value}, Vals (ns.map V.int) us → us.all isIntV = true := by
          intro ns
          induction ns with
          | nil => intro us h; cases h; rfl
          | cons n ns ih =>
            intro us h
            cases h with
            | cons r t =>
              obtain ⟨t', rfl⟩ := r
              rw [List.all_cons, ih t]; rfl
        exact this (ns := [c.1, c.2.1, c.2.2]) hv
      rw [hl, hi] at h
      exact absurd h (by decide)
def lessK (k : KLs) (ks : List KLs) : List KLs := ks.filter fun j => decide (j ≠ k)
def hasK (k : KLs) (ks : List KLs) : Bool := ks.any fun j => decide (j = k)
theorem hasK_cells {cs : List C3} {c : C3} : hasK (kC c) (cs.map kC) = decide (c ∈ cs) := by
  rw [Bool.eq_iff_iff, decide_eq_true_eq]
  unfold hasK
  rw [List.any_eq_true]
  constructor
  · rintro ⟨j, hj, e⟩
    obtain ⟨b, hb, rfl⟩ := List.mem_map.mp hj
    rw [← kC_inj (of_decide_eq_true e)]; exact hb
  · intro h
    exact ⟨kC c, List.mem_map.mpr ⟨c, h, rfl⟩, decide_eq_true rfl⟩
theorem lessK_cells {cs : List C3} {c : C3} : lessK (kC c) (cs.map kC) = (cs.filter fun b => decide (b ≠ c)).map kC := by
  unfold lessK
  rw [List.filter_map]
  congr 1
  refine List.filter_congr fun b _ => ?_
  simp only [Function.comp]
  rw [Bool.eq_iff_iff, decide_eq_true_eq, decide_eq_true_eq]
  exact ⟨fun h e => h (by rw [e]), fun h e => h (kC_inj e)⟩
theorem valV_zip (k : KLs) : ∀ (ks : List KLs) (vs : List V), ks.length = vs.length → (valV (ks.zip vs) k).isSome = hasK k ks
  | [], _, _ => rfl
  | j :: ks, [], h => by simp at h
  | j :: ks, v :: vs, h => by
    rw [List.zip_cons_cons]
    by_cases e : j = k
    · rw [valV_pos e]; simp [hasK, e]
    · rw [valV_neg e, valV_zip k ks vs (by simpa using h)]
      simp [hasK, e]
/-- what is left of keys and values without one key -/
def keepT (k : KLs) : List KLs → List D → List D
  | j :: ks, x :: xs => if j = k then keepT k ks xs else x :: keepT k ks xs
  | _, _ => []
def keepV (k : KLs) : List KLs → List V → List V
  | j :: ks, x :: xs => if j = k then keepV k ks xs else x :: keepV k ks xs
  | _, _ => []
theorem drop_zip (k : KLs) : ∀ (ks : List KLs) (vs : List V), ks.length = vs.length → dropK (ks.zip vs) k = (lessK k ks).zip (keepV k ks vs) ∧ (lessK k ks).length = (keepV k ks vs).length
  | [], [], _ => ⟨rfl, rfl⟩
  | [], _ :: _, h => by simp at h
  | _ :: _, [], h => by simp at h
  | j :: ks, v :: vs, h => by
    obtain ⟨h1, h2⟩ := drop_zip k ks vs (by simpa using h)
    unfold dropK lessK at h1 ⊢
    unfold lessK at h2
    by_cases e : j = k
    · simp only [List.zip_cons_cons, keepV, e, if_true]
      rw [List.filter_cons_of_neg (by simp), List.filter_cons_of_neg (by simp)]
      exact ⟨h1, h2⟩
    · simp only [List.zip_cons_cons, keepV, e, if_false]
      rw [List.filter_cons_of_pos (by simp [e]), List.filter_cons_of_pos (by simp [e]), List.zip_cons_cons, h1, List.length_cons, List.length_cons, h2]
      exact ⟨rfl, rfl⟩
theorem keep_rep {K : Kz} {S : Sto} {H : Hp} (k : KLs) : ∀ {ks : List KLs} {xs : List D} {vs : List V}, RepL K S H xs vs → RepL K S H (keepT k ks xs) (keepV k ks vs)
  | [], _, _, _ => by unfold keepT keepV; exact .nil
  | j :: ks, _, _, .nil => by unfold keepT keepV; exact .nil
  | j :: ks, _, _, .cons a b => by
    unfold keepT keepV
    by_cases e : j = k
    · rw [if_pos e, if_pos e]; exact keep_rep k b
    · rw [if_neg e, if_neg e]; exact .cons a (keep_rep k b)
theorem keep_true (k : KLs) (f : KLs → D) : ∀ ks : List KLs, keepT k ks (ks.map f) = (lessK k ks).map f
  | [] => rfl
  | j :: ks => by
    unfold lessK
    simp only [List.map_cons, keepT]
    by_cases e : j = k
    · rw [if_pos e, List.filter_cons_of_neg (by simp [e])]; exact keep_true k f ks
    · rw [if_neg e, List.filter_cons_of_pos (by simp [e]), List.map_cons]
      have := keep_true k f ks
      unfold lessK at this
      rw [this]
theorem own_setT {K : Kz} {S : Sto} {H : Hp} {a : Addr} {o0 : O} {ks : List KLs} {xs : List D} {vs : List V} (R : Rel K S H) (e : S a = some o0) (z : ks.length = vs.length) (r : RepL K S H xs vs) : Ext S H (put S a (.dT ks xs)) (upd H a (.dT (ks.zip vs))) ∧ Rel K (put S a (.dT ks xs)) (upd H a (.dT (ks.zip vs))) := by
  have x : Ext S H (put S a (.dT ks xs)) (upd H a (.dT (ks.zip vs))) := Ext.write e
  exact ⟨x, R.put x ⟨vs, upd_same, z, RepL.mono R x _ _ r⟩ (R.nz' e)⟩
theorem Fin.ownT {K : Kz} {S : Sto} {H : Hp} {Qd : DQ} {Q : VK} (f : Fin K S H Qd Q) (R : Rel K S H) {p : Addr} {ks : List KLs} {xs : List D} {vs : List V} (n : H p = none) (z : ks.length = vs.length) (r : RepL K S H xs vs) (q : ∀ p, S p = none → Qd (.ref p) (put S p (.dT ks xs))) : Q (.ref p) (upd H p (.dT (ks.zip vs))) :=
  f _ _ _ _ (Ext.own n) (R.put (o := .dT ks xs) (Ext.own n) ⟨vs, upd_same, z, RepL.mono R (Ext.own n) _ _ r⟩ (R.nz n)) (.ref p) (q p (R.fresh n))
section
variable {X : Cx} {B : Bs} {o i e : Expr} {pos tpos : Pos} {mo mi ma : ME} {k : Nat}
/-- c in d -/
def inTP (neg : Bool) : D2 := fun x y S Q => match y with
  | .ref a => match S a with
    | some (.dT ks xs) => ∃ c, x = cD c ∧ Q (.bl (neg != hasK (kC c) ks)) S
    | _ => False
  | _ => False
def rInT (neg : Bool) : R2 := fun x y H Q => ∃ a o, y = .ref a ∧ DGet H a x o ∧ Q (.bl (neg != o.isSome)) H
theorem opd_inT {K : Kz} {neg : Bool} (nc : noCell K.K = true) : OpD K (rInT neg) (inTP neg) := by
  intro S H x y v w Qd Q R rx ry q f
  unfold inTP at q
  split at q
  · rename_i a
    cases ry
    split at q
    · rename_i ks xs hs
      obtain ⟨c, rfl, q⟩ := q
      obtain ⟨b, rfl, hb⟩ := cell_made nc rx
      obtain ⟨vs, hv, hl, rv⟩ := R.get a _ hs
      refine ⟨a, _, rfl, DGet.t hv hb, ?_⟩
      rw [valV_zip _ _ _ hl]
      exact f.here R (.bl _) q
    · exact q.elim
  · exact q.elim
theorem cd_inT (nc : noCell X.K = true) (m : Amb X.A k) : CmpD X B .In (inTP false) := ⟨rInT false, fun pins s σ H x y v u Q I rx ry h => op_inT (by have := m.u64; omega) pins s σ H x y v u Q I rx ry (let ⟨a, o, e, g, q⟩ := h; ⟨a, o, e, g, by simpa using q⟩), opd_inT nc⟩
theorem cd_notInT (nc : noCell X.K = true) (m : Amb X.A k) : CmpD X B .NotIn (inTP true) := ⟨rInT true, fun pins s σ H x y v u Q I rx ry h => op_notInT (by have := m.u64; omega) pins s σ H x y v u Q I rx ry (let ⟨a, o, e, g, q⟩ := h; ⟨a, o, e, g, by simpa using q⟩), opd_inT nc⟩
theorem inT_do {neg : Bool} {S : Sto} {Q : DQ} {a : Addr} {ks : List KLs} {xs : List D} {c : C3} (h : S a = some (.dT ks xs)) (q : Q (.bl (neg != hasK (kC c) ks)) S) : inTP neg (cD c) (.ref a) S Q := by
  unfold inTP; simp only [h]; exact ⟨c, rfl, q⟩
/-- del d[c] -/
def dDelT (mo mi : ME) : MS := fun D env S => mo env S fun x S1 => mi env S1 fun y S2 => match x with
  | .ref a => match S2 a with
    | some (.dT ks xs) => ∃ c, y = cD c ∧ hasK (kC c) ks = true ∧ D.nx env (put S2 a (.dT (lessK (kC c) ks) (keepT (kC c) ks xs)))
    | _ => False
  | _ => False
theorem ds_delT (nc : noCell X.K = true) (m : Amb X.A k) (ho : DE X B o mo) (hi : DE X B i mi) : DS X B (.Delete [.Subscript o i tpos] pos) (dDelT mo mi) := PS_imp (ps_delT (by have := m.u64; omega) ho hi) fun D σ H ⟨env, S, Dd, s, q, f⟩ => by
  refine ⟨env, S, _, s, q, fun x S1 v H1 x1 R1 r1 q1 => ?_⟩
  refine ⟨env, S1, _, s.mono x1 R1, q1, fun y S2 w H2 x2 R2 r2 q2 => ?_⟩
  cases x with
  | ref a =>
    cases r1
    cases hs : S2 a with
    | none => simp only [hs] at q2
    | some o =>
      cases o with
      | dT ks xs =>
        simp only [hs] at q2
        obtain ⟨c, rfl, hm, q2⟩ := q2
        obtain ⟨b, rfl, hb⟩ := cell_made nc r2
        obtain ⟨vs, hv, hl, rv⟩ := R2.get a _ hs
        refine ⟨a, b, _, kC c, rfl, rfl, hv, hb, by rw [valV_zip _ _ _ hl]; exact hm, ?_⟩
        obtain ⟨e1, e2⟩ := drop_zip (kC c) ks vs hl
        rw [e1]
        obtain ⟨x3, R3⟩ := own_setT (ks := lessK (kC c) ks) R2 hs e2 (keep_rep (kC c) rv)
        exact f.nx env _ σ _ ((x1.trans x2).trans x3) (((s.mono x1 R1).mono x2 R2).mono x3 R3) q2
      | _ => simp only [hs] at q2
  | _ => exact q2.elim
end
end DL
/-! {c: True for c in cells}, len. -/
namespace DL
open PySem PySem.Spec PyProof.Rows L2
section
variable {X : Cx} {tg e : Expr} {te : TE}
/-- over a list or a tuple, its items as they stand -/
def iSq (K : PySem.W.Frag) (te : TE) : TI := fun σ H R => te σ H fun v H1 => ∃ a xs, v = .ref a ∧ ((SqL K H1 a xs ∧ R (Itl K a) H1) ∨ (SqT K H1 a xs ∧ R (Itt K a) H1))
theorem pi_sq (h : PE X e te) : PI X tg e (iSq X.K te) := by
  refine ⟨fun pins s σ H R I q => ?_⟩
  refine thn (h.run pins s σ H _ I q) fun u s1 ⟨v, H1, I1, rv, a, xs, ev, q1⟩ => ?_
  subst ev
  obtain rfl : u = Value.ref a := rv
  have fresh : ∀ b ∈ [s1.heap.objs.size], FpOk X pins H1 b := fun b hb => by
    obtain rfl : b = s1.heap.objs.size := by simpa using hb
    exact I1.fpOk (Nat.le_refl _) (I1.hok.fresh (Nat.le_refl _))
  rcases q1 with ⟨l, r⟩ | ⟨l, r⟩
  · obtain ⟨its, rr, p, hz⟩ := I1.list l
    exact wpAny_pyIter_list p.isList ⟨s1.heap.objs.size, [s1.heap.objs.size], _, _, H1, rfl, I1.kept (t' := s1.toks) fun b o e => Heap.get?_push_of_some _ e, turn_list a _, ⟨_, Heap.get?_push_size _ rfl, rfl, rfl⟩, fresh, r⟩
  · obtain ⟨its, rr, p, hz⟩ := I1.tuple l
    exact wpAny_pyIter_tuple p ⟨s1.heap.objs.size, [s1.heap.objs.size], _, _, H1, rfl, I1.kept (t' := s1.toks) fun b o e => Heap.get?_push_of_some _ e, turn_tuple _ _, ⟨_, Heap.get?_push_size _ rfl, rfl, rfl⟩, fresh, r⟩
end
theorem sqL_upd {K : PySem.W.Frag} {H : Hp} {a D : Addr} {xs : List V} {u : HO} (n : H D = none) (h : SqL K H a xs) : SqL K (upd H D u) a xs := by
  rcases h with (h | ⟨o, h⟩) | h
  · exact .inl (.inl (by rw [upd_ne (ne_of_none h n)]; exact h))
  · exact .inl (.inr ⟨o, by rw [upd_ne (ne_of_none h n)]; exact h⟩)
  · exact .inr h
theorem sqT_upd {K : PySem.W.Frag} {H : Hp} {a D : Addr} {xs : List V} {u : HO} (n : H D = none) (h : SqT K H a xs) : SqT K (upd H D u) a xs := by
  rcases h with (h | ⟨o, h⟩) | h
  · exact .inl (.inl (by rw [upd_ne (ne_of_none h n)]; exact h))
  · exact .inl (.inr ⟨o, by rw [upd_ne (ne_of_none h n)]; exact h⟩)
  · exact .inr h
theorem putK_new {kvs : List (KLs × V)} {k : KLs} {v : V} (h : ∀ p ∈ kvs, p.1 ≠ k) : putK kvs k v = kvs ++ [(k, v)] := by
  unfold putK
  rw [if_neg]
  rw [Bool.not_eq_true, List.any_eq_false]
  intro p hp
  simpa using h p hp
theorem zip_maps : ∀ cs : List C3, (cs.map fun c => (kC c, V.bl true)) = (cs.map kC).zip (cs.map fun _ => V.bl true)
  | [] => rfl
  | c :: cs => by simp [zip_maps cs]
theorem rep_trues {K : Kz} {S : Sto} {H : Hp} : ∀ cs : List C3, RepL K S H (cs.map fun _ => D.bl true) (cs.map fun _ => V.bl true)
  | [] => .nil
  | _ :: cs => .cons (.bl true) (rep_trues cs)
/-- {c: True for c in cells}: no two alike -/
def dDcS (i : Nat) (m : ME) : ME := fun env S Q => i < env.length ∧ m env S fun d S1 => ∃ cs : List C3, seqOf S1 d = some (cs.map cD) ∧ cs.Nodup ∧ ∀ p, S1 p = none → Q (.ref p) (put S1 p (.dT (cs.map kC) (cs.map fun _ => .bl true)))
section
variable {X : Cx} {B : Bs} {e : Expr} {ma : ME} {x : Str} {scope : Scope} {own : List (Str × Nat)} {pos p1 p2 px : Pos} {j k : Nat}
theorem tDcS_of {i : Nat} (nc : noCell X.K = true) (hi : i ∈ own.map (·.2)) {σ : L2.St} {H : Hp} {Q : VK} {env : DEnv} {S : Sto} {Qd : DQ} (st : StOk (kz X B) B S H env σ) (hb : i < env.length) (q : ma env S fun d S1 => ∃ cs : List C3, seqOf S1 d = some (cs.map cD) ∧ cs.Nodup ∧ ∀ p, S1 p = none → Qd (.ref p) (put S1 p (.dT (cs.map kC) (cs.map fun _ => .bl true)))) (f : Fin (kz X B) S H Qd Q) :
    tDcT (iSq X.K (cE (kz X B) B ma)) (gName i) tYes (tVar i) (tC (.bl true)) (own.map (·.2)) σ H Q := by
  refine ⟨env, S, _, st, q, fun d S1 v H1 x1 R1 r1 ⟨cs, hsq, nd, q1⟩ => ?_⟩
  obtain ⟨a, us, rfl, sa, za, ra⟩ := seq_read R1 r1 hsq
  have hl : cs.length = us.length := by rw [← ra.length, List.length_map]
  have f1 := f.after x1
  have σl : i < (L2.wipe σ (own.map (·.2))).length := by rw [wipe_length, ← st.env.len]; exact hb
  have made : ∀ i c, cs[i]? = some c → ∃ b, us[i]? = some (V.ref b) ∧ H1 b = some (.tup ((kC c).map kV)) := fun i c hc => by
    obtain ⟨u, hu, ru⟩ := ra.get (i := i) (d := cD c) (by rw [List.getElem?_map, hc]; rfl)
    obtain ⟨b, rfl, hb⟩ := cell_made nc ru
    exact ⟨b, hu, hb⟩
  have main : ∀ (J : It) (D : Addr), H1 D = none → (∀ i u, i < us.length → J.go i (upd H1 D u)) → (∀ i u x H', J.yld i (upd H1 D u) x H' → H' = upd H1 D u ∧ us[i]? = some x) → (∀ u, J.stop us.length (upd H1 D u)) →
      ∃ W : Nat → Nat → Hp → Prop, (∃ m, W 0 m (upd H1 D (.dT []))) ∧ ∀ n m H, W n m H →
        (J.stop n H ∧ Q (.ref D) H) ∨ (J.go n H ∧ ∃ Nx : Hp → Prop, (∀ H', Nx H' → ∃ m', m' < m ∧ W (n + 1) m' H') ∧ ∀ x H', J.yld n H x H' → gName i x (L2.wipe σ (own.map (·.2))) H' fun σ2 H2 => L2.wipe σ2 (own.map (·.2)) = L2.wipe σ (own.map (·.2)) ∧
          (fun σ H (Q : Bool → Hp → Prop) => Q true H) σ2 H2 fun b H3 => if b = true then tVar i σ2 H3 fun y H4 => tC (.bl true) σ2 H4 fun z H5 => ∃ kvs k c, y = .ref c ∧ H5 c = some (.tup (k.map kV)) ∧ H5 D = some (.dT kvs) ∧ kvs.length < sizeLine ∧ Nx (upd H5 D (.dT (putK kvs k z))) else Nx H3) := by
    intro J D nD go yld stop
    refine ⟨fun n m H => m = cs.length - n ∧ n ≤ cs.length ∧ H = upd H1 D (.dT ((cs.take n).map fun c => (kC c, V.bl true))), ⟨cs.length, rfl, Nat.zero_le _, rfl⟩, ?_⟩
    rintro n m H ⟨rfl, hn, rfl⟩
    by_cases lt : n < cs.length
    · refine .inr ⟨go n _ (by omega), fun H' => H' = upd H1 D (.dT ((cs.take (n + 1)).map fun c => (kC c, V.bl true))), fun H' hH => ⟨cs.length - (n + 1), by omega, rfl, lt, hH⟩, fun x H' hy => ?_⟩
      obtain ⟨rfl, hx⟩ := yld n _ x H' hy
      obtain ⟨c, hcn⟩ : ∃ c, cs[n]? = some c := ⟨cs[n], List.getElem?_eq_getElem lt⟩
      obtain ⟨b, hub, hb⟩ := made n c hcn
      rw [hub] at hx; cases hx
      refine ⟨(wipe_set _ i _ _ hi).trans (wipe_idem σ _ _ fun _ z => z), ?_⟩
      refine iteT ⟨.ref b, ?_, ?_⟩
      · exact List.getElem?_set_self σl
      · refine ⟨_, kC c, b, rfl, by rw [upd_ne (ne_of_none hb nD)]; exact hb, upd_same, ?_, ?_⟩
        · rw [List.length_map, List.length_take]; omega
        · have et : cs.take (n + 1) = cs.take n ++ [c] := by rw [List.take_add_one, hcn]; rfl
          rw [putK_new, et, List.map_append]
          · funext z
            unfold upd
            by_cases e : z = D
            · simp [e]
            · simp [e]
          · intro p hp e
            obtain ⟨c', hc', rfl⟩ := List.mem_map.mp hp
            have ec : c' = c := kC_inj e
            subst ec
            have n2 : (cs.take n ++ [c']).Nodup := by rw [← et]; exact nd.sublist (List.take_sublist _ _)
            exact (List.nodup_append.mp n2).2.2 c' hc' c' (by simp) rfl
    · obtain rfl : n = cs.length := by omega
      refine .inl ⟨by rw [hl]; exact stop _, ?_⟩
      rw [List.take_length]
      have ez : (cs.map fun c => (kC c, V.bl true)) = (cs.map kC).zip (cs.map fun _ => V.bl true) := by
        exact zip_maps cs
      rw [ez]
      exact f1.ownT R1 nD (by rw [List.length_map, List.length_map]) (rep_trues cs) q1
  rcases sa with sa | sa
  · exact ⟨a, us, rfl, .inl ⟨sa, fun D nD => main _ D nD (fun i u lt => ⟨us, us[i], sqL_upd nD sa, List.getElem?_eq_getElem lt⟩) (fun i u x H' ⟨e, hy⟩ => ⟨e, hy us (sqL_upd nD sa)⟩) fun u => ⟨us, sqL_upd nD sa, Nat.le_refl _⟩⟩⟩
  · exact ⟨a, us, rfl, .inr ⟨sa, fun D nD => main _ D nD (fun i u lt => ⟨us, us[i], sqT_upd nD sa, List.getElem?_eq_getElem lt⟩) (fun i u x H' ⟨e, hy⟩ => ⟨e, hy us (sqT_upd nD sa)⟩) fun u => ⟨us, sqT_upd nD sa, Nat.le_refl _⟩⟩⟩
theorem de_dcS (i : Nat) (nc : noCell X.K = true) (m : Amb X.A k) (hc : X.calm = true) (hN : X.N.Nodup) (h : DE X B e ma) (ok : BlkOk X.N X.env.scope scope own) (hi : i ∈ own.map (·.2))
    (hg : ∀ (s : Shared) (H : Hp) (C : Addr) (cl : List (Str × Addr)) (fp : List Addr), PG (X.blk s H scope (compEnvC scope cl C X.env) fp) (.Name x px) (gName i))
    (hk : ∀ (s : Shared) (H : Hp) (C : Addr) (cl : List (Str × Addr)) (fp : List Addr), PE (X.blk s H scope (compEnvC scope cl C X.env) fp) (.Name x p1) (tVar i)) (hs : ∀ x, foldedSetIterable e X.env x = pure x := by intro _; rfl) :
    DE X B (.DictComp (.Name x p1) (.Constant (.bool true) j p2) [⟨.Name x px, e, [], 0⟩] scope pos) (dDcS i ma) :=
  PE_imp (pe_dcT (by have := m.u64; omega) hc hN (pi_sq h) ok hg (fun _ _ _ _ _ => pts_nil) hk (fun _ _ _ _ _ => pe_bl) hs) fun σ H Q ⟨env, S, Qd, st, ⟨hb, q⟩, f⟩ => tDcS_of nc hi st hb q f
theorem ds_setDcS (t i : Nat) {y : Str} {py spos : Pos} (nc : noCell X.K = true) (m : Amb X.A k) (hc : X.calm = true) (hN : X.N.Nodup) (hsw : swapsWith (.DictComp (.Name x p1) (.Constant (.bool true) j p2) [⟨.Name x px, e, [], 0⟩] scope pos) (some (.Name y py)) spos.line X.env = pure true) (h : DE X B e ma) (ok : BlkOk X.N X.env.scope scope own) (hi : i ∈ own.map (·.2))
    (hg : ∀ (s : Shared) (H : Hp) (C : Addr) (cl : List (Str × Addr)) (fp : List Addr), PG (X.blk s H scope (compEnvC scope cl C X.env) fp) (.Name x px) (gName i))
    (hk : ∀ (s : Shared) (H : Hp) (C : Addr) (cl : List (Str × Addr)) (fp : List Addr), PE (X.blk s H scope (compEnvC scope cl C X.env) fp) (.Name x p1) (tVar i)) (hy : X.N[t]? = some y := by rfl) (hyl : X.env.scope.names.lookup y = some .local := by rfl) (hs : ∀ x, foldedSetIterable e X.env x = pure x := by intro _; rfl) :
    DS X B (.Assign [.Name y py] (.DictComp (.Name x p1) (.Constant (.bool true) j p2) [⟨.Name x px, e, [], 0⟩] scope pos) spos) (dSet t (dDcS i ma)) :=
  PS_imp (ps_setDcT (by have := m.u64; omega) hc hN hy hyl hsw (pi_sq h) ok hg (fun _ _ _ _ _ => pts_nil) hk (fun _ _ _ _ _ => pe_bl) hs) fun D σ H ⟨env, S, Dd, st, ⟨hb, q⟩, f⟩ =>
    tDcS_of nc hi st hb q fun d S' v H' x' R' r' q' => f.nx _ S' _ H' x' ((st.mono x' R').set r' t) q'
end
end DL
/-! name += .., l.pop(..), len of a dict. -/
namespace DL
open PySem PySem.Spec PyProof.Rows L2
section
variable {X : Cx} {B : Bs} {e o : Expr} {me mo : ME} {pos pos' pc apos : Pos} {mr : MA} {k : Nat}
/-- name += int -/
def dAug (i : Nat) (f : Int → Int → Int) (m : ME) : MS := fun D env S => ∃ a : Int, env[i]? = some (some (.int a)) ∧ m env S fun d S1 => match d with
  | .int b => D.nx (env.set i (some (.int (f a b)))) S1
  | _ => False
theorem ds_augI {f : Int → Int → Int} {op : Operator} (ho : PIp X op (ipI f)) (i : Nat) {x : Str} (hN : X.N.Nodup) (he : DE X B e me) (hi : X.N[i]? = some x := by rfl) (hx : Loc X.env.scope x := by first | exact Or.inl rfl | exact Or.inr rfl)
    (hf : X.fn x = true ∨ X.env.scope.names.lookup x = some .local := by first | exact .inl rfl | exact .inr rfl) : DS X B (.AugAssign (.Name x pos') op e pos) (dAug i f me) := PS_imp (ps_aug hN hi hx he ho hf) fun D σ H ⟨env, S, Dd, s, ⟨a, ha, q⟩, fE⟩ => by
  obtain ⟨v, hv, r⟩ := s.env.get i _ ha
  cases r
  refine ⟨_, hv, env, S, _, s, q, fun d S1 w H1 x1 R1 r1 q1 => ?_⟩
  cases d with
  | int b =>
    cases r1
    exact ⟨a, b, rfl, rfl, fE.nx _ S1 _ H1 x1 ((s.mono x1 R1).set (.int _) i) q1⟩
  | _ => exact q1.elim
theorem ds_augAdd (i : Nat) {x : Str} (hN : X.N.Nodup) (he : DE X B e me) (hi : X.N[i]? = some x := by rfl) (hx : Loc X.env.scope x := by first | exact Or.inl rfl | exact Or.inr rfl)
    (hf : X.fn x = true ∨ X.env.scope.names.lookup x = some .local := by first | exact .inl rfl | exact .inr rfl) : DS X B (.AugAssign (.Name x pos') .Add e pos) (dAug i (fun i j => i + j) me) := ds_augI ip_add i hN he hi hx hf
theorem ds_augSub (i : Nat) {x : Str} (hN : X.N.Nodup) (he : DE X B e me) (hi : X.N[i]? = some x := by rfl) (hx : Loc X.env.scope x := by first | exact Or.inl rfl | exact Or.inr rfl)
    (hf : X.fn x = true ∨ X.env.scope.names.lookup x = some .local := by first | exact .inl rfl | exact .inr rfl) : DS X B (.AugAssign (.Name x pos') .Sub e pos) (dAug i (fun i j => i - j) me) := ds_augI ip_sub i hN he hi hx hf
/-- l.pop(i) of an owned list, i not below 0 -/
def popAtP : DM := fun x ds S Q => match x, ds with
  | .ref a, [.int i] => match S a with
    | some (.lst xs) => (0 ≤ i ∧ i < 2 ^ 62) ∧ match xs[i.toNat]? with
      | some d => Q d (put S a (.lst (xs.eraseIdx i.toNat)))
      | none => False
    | _ => False
  | _, _ => False
theorem RepL.erase {K : Kz} {S : Sto} {H : Hp} : ∀ {ds : List D} {vs : List V} (i : Nat), RepL K S H ds vs → RepL K S H (ds.eraseIdx i) (vs.eraseIdx i)
  | _, _, _, .nil => .nil
  | _, _, 0, .cons _ t => t
  | _, _, i + 1, .cons r t => .cons r (RepL.erase i t)
theorem mtd_popAt {K : Kz} : MtD K rPopAt popAtP := by
  intro S H x v ds vs Qd Q R rx rd q f
  unfold popAtP at q
  split at q
  · rename_i a i
    split at q
    · rename_i xs h
      cases rx
      obtain ⟨w, rfl, rw'⟩ := rd.single
      cases rw'
      obtain ⟨us, hu, z, rr⟩ := R.get a _ h
      obtain ⟨⟨h0, h1⟩, q⟩ := q
      cases hx : xs[i.toNat]? with
      | none => simp only [hx] at q
      | some d =>
        simp only [hx] at q
        obtain ⟨y, hy, ry⟩ := rr.get hx
        have hlt : i.toNat < us.length := (List.getElem?_eq_some_iff.mp hy).1
        have zz : (us.eraseIdx i.toNat).length ≤ sizeLine := Nat.le_trans (len_erase us _) z
        obtain ⟨x3, R3⟩ := own_set R h zz (RepL.erase i.toNat rr)
        refine ⟨a, us, i, i.toNat, y, rfl, rfl, hu, by omega, by omega, ?_, hy, ?_⟩
        · have e : ixN us.length i = some i.toNat := ixN_nat h0 (by omega)
          exact (ixN_seq e).1
        · exact f d _ y _ x3 R3 (Rep.mono R x3 _ _ ry) q
    · exact q.elim
  · exact q.elim
theorem de_popAt (ho : DE X B o mo) (ha : DA X B [e] mr) (hbase : attributeBase o "pop" X.env (eval o X.env) = eval o X.env := by rfl)
    (hfew : ((backTo pc (starEach [e] X.env)).all (fun x => !x.1) && (backToKw pc (keywordEach [] X.env)).all (fun x => x.1.isSome) && decide ([e].length + ([] : List Keyword).length + (if ([] : List Keyword).isEmpty then 0 else 1) < 30)) = true := by rfl)
    (hline : (apos.endLine == pc.line) = true := by rfl) (hs : starEach [e] X.env = (false, eval e X.env) :: starEach [] X.env := by rfl) :
    DE X B (.Call (.Attribute o "pop" apos) [e] [] pc) (dMeth "list" popAtP mo mr) :=
  de_meth PySem.F.plainAttrs_list PySem.F.slot_list_pop PySem.F.type_list_pop mt_popAt mtd_popAt ho ha hbase hfew hline hs rfl
/-- len of an owned dict -/
def lenTP : DN := fun ds S Q => match ds with
  | [.ref a] => match S a with
    | some (.dT ks xs) => Q (.int ks.length) S
    | _ => False
  | _ => False
theorem cad_lenT {K : Kz} : CallD K rLenT lenTP := by
  intro S H ds vs Qd Q R r q f
  unfold lenTP at q
  split at q
  · rename_i a
    obtain ⟨v, rfl, rv⟩ := r.single
    cases rv
    split at q
    · rename_i ks xs hs
      obtain ⟨us, hu, hl, rr⟩ := R.get a _ hs
      refine ⟨a, _, rfl, hu, ?_⟩
      rw [List.length_zip, ← hl, Nat.min_self]
      exact f.here R (.int _) q
    · exact q.elim
  · exact q.elim
end
theorem lenT_do {S : Sto} {a : Addr} {ks : List KLs} {xs : List D} {Q : DQ} (h : S a = some (.dT ks xs)) (q : Q (.int ks.length) S) : lenTP [.ref a] S Q := by
  unfold lenTP; simp only [h]; exact q
theorem popAt_do {S : Sto} {a : Addr} {xs : List D} {i : Int} {d : D} {Q : DQ} (h : S a = some (.lst xs)) (h0 : 0 ≤ i) (h1 : i < 2 ^ 62) (hx : xs[i.toNat]? = some d) (q : Q d (put S a (.lst (xs.eraseIdx i.toNat)))) : popAtP (.ref a) [.int i] S Q := by
  unfold popAtP; simp only [h, hx]; exact ⟨⟨h0, h1⟩, q⟩
section
variable {S : Sto} {env : DEnv} {D0 : DEnds} {me mo mi : ME} {i : Nat} {f : Int → Int → Int}
def zAug (D0 : DEnds) (i : Nat) (env : DEnv) (f : Int → Int → Int) (a : Int) : D → Sto → Prop
  | .int b, S1 => D0.nx (env.set i (some (.int (f a b)))) S1
  | _, _ => False
theorem aug_do {a : Int} (h : env[i]? = some (some (.int a))) (q : me env S (zAug D0 i env f a)) : dAug i f me D0 env S := by
  refine ⟨a, h, ?_⟩
  have e : zAug D0 i env f a = fun d S1 => match d with
    | .int b => D0.nx (env.set i (some (.int (f a b)))) S1
    | _ => False := by
    funext d S1
    cases d <;> rfl
  rw [← e]; exact q
theorem z_aug {a b : Int} : zAug D0 i env f a (.int b) S = D0.nx (env.set i (some (.int (f a b)))) S := rfl
def zDel1 (mi : ME) (D0 : DEnds) (env : DEnv) (x : D) (S1 : Sto) : Prop := mi env S1 fun y S2 => match x with
  | .ref a => match S2 a with
    | some (.dT ks xs) => ∃ c, y = cD c ∧ hasK (kC c) ks = true ∧ D0.nx env (put S2 a (.dT (lessK (kC c) ks) (keepT (kC c) ks xs)))
    | _ => False
  | _ => False
def zDel2 (D0 : DEnds) (env : DEnv) (x y : D) (S2 : Sto) : Prop := match x with
  | .ref a => match S2 a with
    | some (.dT ks xs) => ∃ c, y = cD c ∧ hasK (kC c) ks = true ∧ D0.nx env (put S2 a (.dT (lessK (kC c) ks) (keepT (kC c) ks xs)))
    | _ => False
  | _ => False
theorem z_del : dDelT mo mi D0 env S = mo env S (zDel1 mi D0 env) := rfl
theorem z_del1 {x : D} : zDel1 mi D0 env x S = mi env S (zDel2 D0 env x) := rfl
theorem del_do {a : Addr} {ks : List KLs} {xs : List D} {c : C3} (h : S a = some (.dT ks xs)) (hk : hasK (kC c) ks = true) (q : D0.nx env (put S a (.dT (lessK (kC c) ks) (keepT (kC c) ks xs)))) : zDel2 D0 env (.ref a) (cD c) S := by
  unfold zDel2; simp only [h]; exact ⟨c, rfl, hk, q⟩
def zDcS (Q : DQ) (d : D) (S1 : Sto) : Prop := ∃ cs : List C3, seqOf S1 d = some (cs.map cD) ∧ cs.Nodup ∧ ∀ p, S1 p = none → Q (.ref p) (put S1 p (.dT (cs.map kC) (cs.map fun _ => .bl true)))
theorem z_dcS {Q : DQ} : dDcS i me env S Q = (i < env.length ∧ me env S (zDcS Q)) := rfl
end
section
variable {X : Cx} {pos : Pos}
theorem vg_name (i : Nat) {x : Str} (hN : X.N.Nodup) (hi : X.N[i]? = some x := by rfl) (hx : Loc X.env.scope x := by first | exact Or.inl rfl | exact Or.inr rfl) (hf : X.fn x = true ∨ X.env.scope.names.lookup x = some .local := by first | exact .inl rfl | exact .inr rfl) : PG X (.Name x pos) (gName i) := pg_name hN hi hx hf
theorem vv_name (i : Nat) {x : Str} (hN : X.N[i]? = some x := by rfl) (hv : Vis X.env.scope x := by first | exact Or.inl rfl | exact Or.inr (Or.inl rfl) | exact Or.inr (Or.inr rfl)) (hd : (x == ("__debug__" : Str)) = false := by decide) (hcd : (x == ("__classdict__" : Str)) = false := by decide) : PE X (.Name x pos) (tVar i) := pe_var hN hv hd hcd
end
end DL
/-! list(range(n)). -/
namespace DL
open PySem PySem.Spec PyProof.Rows L2
section
variable {X : Cx} {B : Bs} {e : Expr} {me : ME} {p p2 pos pos2 : Pos}
def dLstRg (m : ME) : ME := fun env S Q => m env S fun d S1 => match d with
  | .int n => -(2 ^ 62) ≤ n ∧ n ≤ 16777216 ∧ ∀ q, S1 q = none → Q (.ref q) (put S1 q (.lst (DL.upTo 0 n.toNat)))
  | _ => False
theorem rg_rep {K : Kz} {S : Sto} {H : Hp} {n : Int} : RepL K S H (DL.upTo 0 n.toNat) (rgV 0 n) := by
  have go : ∀ l : List Nat, RepL K S H (l.map fun k => D.int ((0 : Int) + (k : Nat))) (l.map fun k => V.int ((0 : Int) + (k : Nat))) := fun l => by
    induction l with
    | nil => exact .nil
    | cons k l ih => exact .cons (.int _) ih
  unfold DL.upTo rgV
  have e : ((n - 0).toNat) = n.toNat := by omega
  rw [e]
  exact go _
theorem de_lstRg (hc : X.calm = true) (hg : Gl X "range") (hm : X.mg "range" = none) (hg2 : Gl X "list") (hm2 : X.mg "list" = none) (he : DE X B e me) (na : starEach [e] X.env = (false, eval e X.env) :: starEach [] X.env := by rfl) :
    DE X B (.Call (.Name "list" p) [.Call (.Name "range" p2) [e] [] pos2] [] pos) (dLstRg me) := PE_imp (pe_listRg hc hg2 hm2 (prg_1 hg hm he na)) fun σ H Q ⟨env, S, Qd, s, q, f⟩ => by
  refine ⟨env, S, _, s, q, fun d S1 v H1 x1 R1 r1 q1 => ?_⟩
  cases d with
  | int n =>
    cases r1
    refine ⟨n, rfl, ⟨by decide, by decide, q1.1, by omega, by omega⟩, fun l nl => (f.after x1).own R1 nl ?_ rg_rep q1.2.2⟩
    rw [rgV_length, sizeLine_eq]
    omega
  | _ => exact q1.elim
end
def zLstRg (Q : DQ) : D → Sto → Prop
  | .int n, S1 => -(2 ^ 62) ≤ n ∧ n ≤ 16777216 ∧ ∀ q, S1 q = none → Q (.ref q) (put S1 q (.lst (DL.upTo 0 n.toNat)))
  | _, _ => False
theorem z_lstRg {me : ME} {env : DEnv} {S : Sto} {Q : DQ} : dLstRg me env S Q = me env S (zLstRg Q) := by
  unfold dLstRg; congr 1; funext d S1; cases d <;> rfl
theorem z_lstRg1 {n : Int} {S : Sto} {Q : DQ} : zLstRg Q (.int n) S = (-(2 ^ 62) ≤ n ∧ n ≤ 16777216 ∧ ∀ q, S q = none → Q (.ref q) (put S q (.lst (DL.upTo 0 n.toNat)))) := rfl
theorem sw_dict {kx vx : Expr} {gs : List Comprehension} {scope : Scope} {pos py : Pos} {y : Str} {l : Nat} {env : Env} (hk : env.scope.kind = .function) (hy : env.scope.names.lookup y = some .local) (hl : (py.line == pos.line) = true)
    (ha : (scope.names.any fun (n, k) => n == y && (k == .local || k == .cell)) = false) : swapsWith (.DictComp kx vx gs scope pos) (some (.Name y py)) l env = pure true := by
  unfold swapsWith
  simp only [show env.blockKind = .function by unfold Env.blockKind; rw [hk]; rfl, show env.kindOf y = some .local from hy, ha, Expr.pos, hl]
  rfl
end DL
/-! Instances: fields, methods, making; deep settling; defs with defaults. -/
namespace DL
open PySem PySem.Spec PyProof.Rows L2
/-! ### fields -/
def putN (f : Str) : List Str → List Str
  | [] => [f]
  | g :: r => if g = f then g :: r else g :: putN f r
def putX {α : Type} (f : Str) (y : α) : List Str → List α → List α
  | g :: r, x :: xs => if g = f then y :: xs else x :: putX f y r xs
  | _, _ => [y]
def getX {α : Type} (f : Str) : List Str → List α → Option α
  | g :: r, x :: xs => if g = f then some x else getX f r xs
  | _, _ => none
theorem putF_zip (f : Str) (y : V) : ∀ (ns : List Str) (vs : List V), ns.length = vs.length → putF f y (ns.zip vs) = (putN f ns).zip (putX f y ns vs)
  | [], [], _ => rfl
  | [], _ :: _, h => by simp at h
  | _ :: _, [], h => by simp at h
  | g :: ns, v :: vs, h => by
    have ih := putF_zip f y ns vs (by simpa using h)
    show putF f y ((g, v) :: ns.zip vs) = _
    unfold putN putX putF
    by_cases e : g = f
    · rw [if_pos e, if_pos e, if_pos e]; rfl
    · rw [if_neg e, if_neg e, if_neg e, ih]; rfl
theorem put_len {α : Type} (f : Str) (y : α) : ∀ (ns : List Str) (vs : List α), ns.length = vs.length → (putN f ns).length = (putX f y ns vs).length
  | [], [], _ => rfl
  | [], _ :: _, h => by simp at h
  | _ :: _, [], h => by simp at h
  | g :: ns, v :: vs, h => by
    have ih := put_len f y ns vs (by simpa using h)
    unfold putN putX
    by_cases e : g = f
    · rw [if_pos e, if_pos e]; simpa using h
    · rw [if_neg e, if_neg e]; simpa using ih
theorem getX_lookup {α : Type} (f : Str) : ∀ (ns : List Str) (vs : List α), (ns.zip vs).lookup f = getX f ns vs
  | [], vs => by simp [getX]
  | _ :: _, [] => by simp [getX]
  | g :: ns, v :: vs => by
    have ih := getX_lookup f ns vs
    rw [List.zip_cons_cons]
    unfold getX
    by_cases e : g = f
    · subst e; simp [List.lookup]
    · have e2 : (f == g) = false := by simpa using fun h => e h.symm
      rw [if_neg e, ← ih]
      simp [List.lookup, e2]
section
variable {K : Kz} {S : Sto} {H : Hp}
theorem getX_rep {f : Str} {d : D} : ∀ {ns : List Str} {ds : List D} {vs : List V}, RepL K S H ds vs → getX f ns ds = some d → ∃ v, getX f ns vs = some v ∧ Rep K S H d v
  | [], _, _, _, h => by simp [getX] at h
  | _ :: _, [], _, _, h => by simp [getX] at h
  | g :: ns, x :: ds, _, .cons r rr, h => by
    unfold getX at h ⊢
    by_cases e : g = f
    · rw [if_pos e] at h ⊢
      cases h
      exact ⟨_, rfl, r⟩
    · rw [if_neg e] at h ⊢
      exact getX_rep rr h
theorem putX_rep {f : Str} {d : D} {v : V} (r : Rep K S H d v) : ∀ {ns : List Str} {ds : List D} {vs : List V}, ns.length = vs.length → RepL K S H ds vs → RepL K S H (putX f d ns ds) (putX f v ns vs)
  | [], _, _, h, rr => by
    cases rr with
    | nil => exact .cons r .nil
    | cons _ _ => simp at h
  | g :: ns, _, _, h, .nil => by simp at h
  | g :: ns, x :: ds, y :: vs, h, .cons a b => by
    unfold putX
    by_cases e : g = f
    · rw [if_pos e, if_pos e]; exact .cons r b
    · rw [if_neg e, if_neg e]; exact .cons a (putX_rep r (by simpa using h) b)
end
/-- an instance of the class at C: its fields -/
def objOf (S : Sto) : D → Option (Addr × List Str × List D)
  | .obj C ns ds => some (C, ns, ds)
  | .ref a => match S a with
    | some (.obj C ns ds) => some (C, ns, ds)
    | _ => none
  | _ => none
theorem objOf_obj {S : Sto} {C : Addr} {ns : List Str} {ds : List D} : objOf S (.obj C ns ds) = some (C, ns, ds) := rfl
theorem objOf_ref {S : Sto} {a C : Addr} {ns : List Str} {ds : List D} (h : S a = some (.obj C ns ds)) : objOf S (.ref a) = some (C, ns, ds) := by simp [objOf, h]
theorem objOf_put {S : Sto} {a C : Addr} {ns : List Str} {ds : List D} : objOf (put S a (.obj C ns ds)) (.ref a) = some (C, ns, ds) := objOf_ref put_same
theorem obj_read {K : Kz} {S : Sto} {H : Hp} {d : D} {v : V} {C : Addr} {ns : List Str} {ds : List D} (R : Rel K S H) (r : Rep K S H d v) (h : objOf S d = some (C, ns, ds)) : ∃ a dx vs, v = .ref a ∧ H a = some (.ins C dx (ns.zip vs)) ∧ ns.length = vs.length ∧ RepL K S H ds vs := by
  cases d with
  | obj C' ns' ds' =>
    cases h
    cases r with
    | obj n q z r => exact ⟨_, _, _, rfl, q, z, r⟩
  | ref a =>
    cases r
    unfold objOf at h
    cases e : S a with
    | none => simp [e] at h
    | some o =>
      cases o with
      | obj C' ns' ds' =>
        simp only [e] at h
        cases h
        obtain ⟨dx, vs, q, z, r⟩ := R.get a _ e
        exact ⟨a, dx, vs, rfl, q, z, r⟩
      | _ => simp [e] at h
  | _ => cases h
section
variable {X : Cx} {B : Bs} {a b c e o : Expr} {ma mb me mo : ME} {es : List Expr} {mr : MA} {pos pc pos' apos : Pos} {f m : Str} {C : Addr}
/-- o.f of an instance of the class at C -/
def dFld (C : Addr) (f : Str) (m : ME) : ME := fun env S Q => m env S fun d S1 => match objOf S1 d with
  | some (C', ns, ds) => C' = C ∧ match getX f ns ds with
    | some y => Q y S1
    | none => False
  | none => False
theorem de_fld (cl : Cls X.K C) (na : NoAttr X.K C f) (he : DE X B e me) (hb : attributeBase e f X.env (eval e X.env) = eval e X.env := by rfl) : DE X B (.Attribute e f pos) (dFld C f me) := PE_imp (pe_fld he hb) fun σ H Q ⟨env, S, Qd, s, q, fi⟩ => by
  refine ⟨env, S, _, s, q, fun d S1 v H1 x1 R1 r1 q1 => ?_⟩
  cases h : objOf S1 d with
  | none => simp only [h] at q1
  | some t =>
    obtain ⟨C', ns, ds⟩ := t
    simp only [h] at q1
    obtain ⟨rfl, q1⟩ := q1
    cases g : getX f ns ds with
    | none => simp only [g] at q1
    | some y =>
      simp only [g] at q1
      obtain ⟨a, dx, vs, rfl, hq, z, rr⟩ := obj_read R1 r1 h
      obtain ⟨u, hu, ru⟩ := getX_rep rr g
      exact ⟨a, _, dx, _, u, rfl, hq, cl, na, by rw [getX_lookup]; exact hu, (fi.after x1).here R1 ru q1⟩
/-- o.f = e of an instance of the store's -/
def dSetF (C : Addr) (f : Str) (mo me : ME) : MS := fun D env S => me env S fun y S1 => mo env S1 fun d S2 => match d with
  | .ref a => match S2 a with
    | some (.obj C' ns ds) => C' = C ∧ ns.length < 1000 ∧ D.nx env (put S2 a (.obj C (putN f ns) (putX f y ns ds)))
    | _ => False
  | _ => False
theorem ds_setF (cl : Cls X.K C) (na : NoAttr X.K C f) (ho : DE X B o mo) (he : DE X B e me) (hs : swapsWith e (some (.Attribute o f pos')) pos.line X.env = pure false := by rfl) : DS X B (.Assign [.Attribute o f pos'] e pos) (dSetF C f mo me) := PS_imp (ps_fld ho he hs) fun D σ H ⟨env, S, Dd, s, q, fi⟩ => by
  refine ⟨env, S, _, s, q, fun y S1 yv H1 x1 R1 r1 q1 => ?_⟩
  refine ⟨env, S1, _, s.mono x1 R1, q1, fun d S2 v H2 x2 R2 r2 q2 => ?_⟩
  cases d with
  | ref a =>
    cases r2
    cases h : S2 a with
    | none => simp only [h] at q2
    | some w =>
      cases w with
      | obj C' ns ds =>
        simp only [h] at q2
        obtain ⟨rfl, hl, q2⟩ := q2
        obtain ⟨dx, vs, hq, z, rr⟩ := R2.get a _ h
        have ry := Rep.mono R1 x2 _ _ r1
        refine ⟨a, _, dx, _, rfl, hq, cl, na, by rw [List.length_zip, ← z, Nat.min_self]; exact hl, ?_⟩
        rw [putF_zip f yv ns vs z]
        have x3 : Ext S2 H2 (put S2 a (.obj C' (putN f ns) (putX f y ns ds))) (upd H2 a (.ins C' dx ((putN f ns).zip (putX f yv ns vs)))) := Ext.write h
        have R3 : Rel (kz X B) (put S2 a (.obj C' (putN f ns) (putX f y ns ds))) (upd H2 a (.ins C' dx ((putN f ns).zip (putX f yv ns vs)))) := by
          refine R2.put x3 ⟨dx, _, upd_same, put_len f yv ns vs z, ?_⟩ (R2.nz' h)
          exact RepL.mono R2 x3 _ _ (putX_rep ry z rr)
        exact fi.nx env _ σ _ ((x1.trans x2).trans x3) (((s.mono x1 R1).mono x2 R2).mono x3 R3) q2
      | _ => simp only [h] at q2
  | _ => exact q2.elim
end
/-! ### methods, making -/
section
variable {X : Cx} {B : Bs} {k : Nat} {f C : Addr} {fd : FuncData} {ps : List Str} {p : DSp} {dds : List D} {dvs : List V} {dus : List Value} {x m : Str} {pc pos apos : Pos} {e o : Expr} {es : List Expr} {mo : ME} {mr : MA} {Wd : WD}
/-- an instance of C without a field m -/
def isInst (C : Addr) (m : Str) (S : Sto) (d : D) : Prop := match objOf S d with
  | some (C', ns, _) => C' = C ∧ m ∉ ns
  | none => False
theorem inst_read {K : Kz} {S : Sto} {H : Hp} {d : D} {v : V} (R : Rel K S H) (r : Rep K S H d v) (h : isInst C m S d) : ∃ a dx fs, v = .ref a ∧ H a = some (.ins C dx fs) ∧ fs.lookup m = none := by
  unfold isInst at h
  cases e : objOf S d with
  | none => simp [e] at h
  | some t =>
    obtain ⟨C', ns, ds⟩ := t
    simp only [e] at h
    obtain ⟨rfl, hn⟩ := h
    obtain ⟨a, dx, vs, rfl, hq, z, rr⟩ := obj_read R r e
    refine ⟨a, dx, _, rfl, hq, ?_⟩
    rw [getX_lookup]
    clear hq rr e z
    induction ns generalizing vs with
    | nil => simp [getX]
    | cons g ns ih =>
      cases vs with
      | nil => simp [getX]
      | cons v vs =>
        unfold getX
        rw [if_neg fun e => hn (by rw [e]; exact List.mem_cons_self)]
        exact ih (fun h => hn (List.mem_cons_of_mem _ h)) vs
def dCallM (C : Addr) (m : Str) (p : DSp) (dds : List D) (Wd : WD) (mo : ME) (t : MA) : ME := fun env S Q => mo env S fun d S1 => isInst C m S1 d ∧ t env S1 fun ds S2 => p (d :: (ds ++ dds)) S2 Q (fun C ns ds S' => Wd C ns ds env S')
theorem de_callM {pl : Sem Bool} (cl : Cls X.K C) (hm : Meth X.K C m f) (F : DFn X.prog X.w X.K X.mg X.base k f fd ps p) (hr : Room k X.A) (hgd : X.A.guards = some []) (hb : Binds X.K fd ps dus) (hd : Vals dvs dus) (hc : Closed (kz X B) dds dvs) (tk : DTk X B Wd) (he : DE X B o mo) (ha : DA X B (e :: es) mr)
    (hst : starEach (e :: es) X.env = (false, eval e X.env) :: starEach es X.env := by rfl) (hpl : (backTo pos (starEach es X.env)).any (·.1) = false := by rfl)
    (ht : eval (.Call (.Attribute o m apos) (e :: es) [] pos) X.env = (do
      let ov ← eval o X.env
      standAt apos.atName
      let (f, first) ← holding [ov] (getMethod ov m pl)
      callWith pos f first (backTo pos (starEach (e :: es) X.env)) (backToKw pos (keywordEach [] X.env))) := by rfl) :
    DE X B (.Call (.Attribute o m apos) (e :: es) [] pos) (dCallM C m p dds Wd mo mr) := by
  refine ⟨fun pins s σ H Q I ⟨env, S, Qd, st, q, fi⟩ => ?_⟩
  have ev : cE (kz X B) B mo σ H fun v H1 => ∃ d S1, Ext S H S1 H1 ∧ Rel (kz X B) S1 H1 ∧ Rep (kz X B) S1 H1 d v ∧ isInst C m S1 d ∧ mr env S1 fun ds S2 => p (d :: (ds ++ dds)) S2 Qd (fun C ns ds S' => Wd C ns ds env S') :=
    ⟨env, S, _, st, q, fun d S1 v H1 x1 R1 r1 q1 => ⟨d, S1, x1, R1, r1, q1⟩⟩
  refine PySem.W.methodCall_KW (pl := pl) (thn (he.run pins s σ H _ I ev) fun u s1 ⟨v, H1, I1, rv, d, S1, x1, R1, r1, hi, q1⟩ => ?_) ht
  obtain ⟨a, dx, fs, rfl, ea, l⟩ := inst_read R1 r1 hi
  obtain rfl : u = Value.ref a := rv
  refine getmeth_ok I1 ea cl hm l ?_
  have args : cA (kz X B) B mr σ H1 fun vs H2 => ∃ ds S2, Ext S1 H1 S2 H2 ∧ RepL (kz X B) S2 H2 ds vs ∧ StOk (kz X B) B S2 H2 env σ ∧ p (d :: (ds ++ dds)) S2 Qd (fun C ns ds S' => Wd C ns ds env S') ∧ Fin (kz X B) S2 H2 Qd Q :=
    ⟨env, S1, _, st.mono x1 R1, q1, fun ds S2 vs H2 x2 R2 r2 q2 => ⟨ds, S2, x2, r2, (st.mono x1 R1).mono x2 R2, q2, (fi.after x1).after x2⟩⟩
  refine PySem.W.callWith_K (first := [.ref a]) (h₀ := X.base) I1.ok.mod.kin hm.kp (thn (ha.run pos pins s1 σ H1 _ I1 args) fun us s2 ⟨vs, H2, I2, r, ds, S2, x2, rd, st2, q2, f2⟩ => ⟨I2.kIn, ?_⟩) hst hpl
  exact run_dfn (us := .ref a :: us) (vs := .ref a :: vs) (ds := d :: ds) F hr hgd hb hd hc tk I2 st2 (.cons rfl r) (.cons (Rep.mono R1 x2 _ _ r1) rd) q2 f2
theorem de_callM0 {pl : Sem Bool} (cl : Cls X.K C) (hm : Meth X.K C m f) (F : DFn X.prog X.w X.K X.mg X.base k f fd ps p) (hr : Room k X.A) (hgd : X.A.guards = some []) (hb : Binds X.K fd ps dus) (hd : Vals dvs dus) (hc : Closed (kz X B) dds dvs) (tk : DTk X B Wd) (he : DE X B o mo)
    (ht : eval (.Call (.Attribute o m apos) [] [] pos) X.env = (do
      let ov ← eval o X.env
      standAt apos.atName
      let (f, first) ← holding [ov] (getMethod ov m pl)
      callWith pos f first (backTo pos (starEach [] X.env)) (backToKw pos (keywordEach [] X.env))) := by rfl) :
    DE X B (.Call (.Attribute o m apos) [] [] pos) (dCallM C m p dds Wd mo dNil) := by
  refine ⟨fun pins s σ H Q I ⟨env, S, Qd, st, q, fi⟩ => ?_⟩
  have ev : cE (kz X B) B mo σ H fun v H1 => ∃ d S1, Ext S H S1 H1 ∧ Rel (kz X B) S1 H1 ∧ Rep (kz X B) S1 H1 d v ∧ isInst C m S1 d ∧ p (d :: dds) S1 Qd (fun C ns ds S' => Wd C ns ds env S') :=
    ⟨env, S, _, st, q, fun d S1 v H1 x1 R1 r1 q1 => ⟨d, S1, x1, R1, r1, q1⟩⟩
  refine PySem.W.methodCall_KW (pl := pl) (thn (he.run pins s σ H _ I ev) fun u s1 ⟨v, H1, I1, rv, d, S1, x1, R1, r1, hi, q1⟩ => ?_) ht
  obtain ⟨a, dx, fs, rfl, ea, l⟩ := inst_read R1 r1 hi
  obtain rfl : u = Value.ref a := rv
  refine getmeth_ok I1 ea cl hm l ?_
  exact PySem.W.callWith_K0 (first := [.ref a]) I1.kIn hm.kp (run_dfn (us := [.ref a]) (vs := [.ref a]) (ds := [d]) F hr hgd hb hd hc tk I1 (st.mono x1 R1) (.cons rfl .nil) (.cons r1 .nil) q1 (fi.after x1))
/-- C(..) -/
def dMake (C : Addr) (p : DSp) (dds : List D) (Wd : WD) (t : MA) : ME := fun env S Q => t env S fun ds S1 => ∀ q, S1 q = none → p (.ref q :: (ds ++ dds)) (put S1 q (.obj C [] [])) (fun v S2 => v = .non ∧ Q (.ref q) S2) (fun C ns ds S' => Wd C ns ds env S')
theorem run_makeD {pins : List (Addr × Obj)} {σ : L2.St} {H : Hp} {s : Shared} {env : DEnv} {S : Sto} {Q : VK} {Qd : DQ} {us : List Value} {vs : List V} {ds : List D} (M : Mk X.K C f) (F : DFn X.prog X.w X.K X.mg X.base k f fd ps p) (hr : Room (k + 1) X.A) (hgd : X.A.guards = some [])
    (hb : Binds X.K fd ps dus) (hd : Vals dvs dus) (hc : Closed (kz X B) dds dvs) (tk : DTk X B Wd) (I : Inv X pins σ H s) (st : StOk (kz X B) B S H env σ) (r : Vals vs us) (rd : RepL (kz X B) S H ds vs)
    (q : ∀ q, S q = none → p (.ref q :: (ds ++ dds)) (put S q (.obj C [] [])) (fun v S2 => v = .non ∧ Qd (.ref q) S2) (fun C ns ds S' => Wd C ns ds env S')) (fi : Fin (kz X B) S H Qd Q) :
    wpAny (model X.prog X.w) X.A (call (.ref C) us) (EP X pins σ Q) X.xe s := by
  have n1 : H s.heap.objs.size = none := I.hok.fresh (Nat.le_refl _)
  have n2 : H (s.heap.objs.size + 1) = none := I.hok.fresh (Nat.le_succ _)
  have ne : s.heap.objs.size ≠ s.heap.objs.size + 1 := Nat.ne_of_lt (Nat.lt_succ_self _)
  have I2 := Inv.made (C := C) I
  have xa : Ext S H S (upd H s.heap.objs.size (.own (s.heap.objs.size + 1))) := Ext.new n1
  have Ra : Rel (kz X B) S (upd H s.heap.objs.size (.own (s.heap.objs.size + 1))) := st.rel.new n1
  have n3 : upd H s.heap.objs.size (.own (s.heap.objs.size + 1)) (s.heap.objs.size + 1) = none := by rw [upd_ne ne.symm]; exact n2
  have xb : Ext S (upd H s.heap.objs.size (.own (s.heap.objs.size + 1))) (put S (s.heap.objs.size + 1) (.obj C [] [])) (upd (upd H s.heap.objs.size (.own (s.heap.objs.size + 1))) (s.heap.objs.size + 1) (.ins C s.heap.objs.size [])) := Ext.own n3
  have Rb : Rel (kz X B) (put S (s.heap.objs.size + 1) (.obj C [] [])) (upd (upd H s.heap.objs.size (.own (s.heap.objs.size + 1))) (s.heap.objs.size + 1) (.ins C s.heap.objs.size [])) :=
    Ra.put xb ⟨s.heap.objs.size, [], upd_same, rfl, .nil⟩ (Ra.nz n3)
  have x2 := xa.trans xb
  have hq := q (s.heap.objs.size + 1) (st.rel.fresh n2)
  have r2 : Vals (V.ref (s.heap.objs.size + 1) :: (vs ++ dvs)) (Value.ref (s.heap.objs.size + 1) :: (us ++ dus)) := .cons rfl (r.append hd)
  have rd2 : RepL (kz X B) (put S (s.heap.objs.size + 1) (.obj C [] [])) (upd (upd H s.heap.objs.size (.own (s.heap.objs.size + 1))) (s.heap.objs.size + 1) (.ins C s.heap.objs.size [])) (.ref (s.heap.objs.size + 1) :: (ds ++ dds)) (V.ref (s.heap.objs.size + 1) :: (vs ++ dvs)) :=
    .cons (.ref _) ((RepL.mono st.rel x2 _ _ rd).append (hc _ _))
  have hl : (Value.ref (s.heap.objs.size + 1) :: us ++ dus).length = ps.length := by
    have e := F.len _ _ _ _ hq
    rw [rd2.length, r2.length] at e
    exact e
  have fi2 : Fin (kz X B) (put S (s.heap.objs.size + 1) (.obj C [] [])) (upd (upd H s.heap.objs.size (.own (s.heap.objs.size + 1))) (s.heap.objs.size + 1) (.ins C s.heap.objs.size [])) (fun v S2 => v = .non ∧ Qd (.ref (s.heap.objs.size + 1)) S2) (fun v H' => v = .non ∧ Q (.ref (s.heap.objs.size + 1)) H') := fun d S' v H' x' R' r' q' => by
    obtain ⟨rfl, q'⟩ := q'
    cases r'
    exact ⟨rfl, (fi.after x2) _ S' _ H' x' R' (.ref _) q'⟩
  refine wpAny_call (make_map (f := f) I.kIn M.makes M.init (beq_iff_eq.mp M.fn) (codeAny_mono (F.run _ X.stack _ _ ⟨Value.ref (s.heap.objs.size + 1) :: us, []⟩ (Value.ref (s.heap.objs.size + 1) :: (us ++ dus)) _ _ _ _ (fun C ns ds S' => Wd C ns ds env S') _ B.Z (hr.make C us [])
    hgd (I2.env0.make C us []) (hb _ (Value.ref (s.heap.objs.size + 1) :: us) I2.kIn hl) r2 rd2 Rb hq fi2) fun res s' hq' => ?_))
  cases res with
  | error ex =>
    refine tk _ _ (XE.of_call I2 (fun cls d H' z => ?_) hq')
    obtain ⟨C, d', ns, ds', vs', S', e1, e2, e3, e4, e5, e6, e7, e8⟩ := z
    exact ⟨C, d', ns, ds', vs', env, S', e1, e2, e3, e4, e5, st.mono (x2.trans e6) e7, e8⟩
  | ok fl =>
    cases fl with
    | ret u =>
      obtain ⟨v, H', I3, rv, ev, q3⟩ := I2.after hq'
      subst ev
      exact ⟨rv, ⟨V.ref (s.heap.objs.size + 1), H', I3, rfl, q3⟩⟩
    | next => exact False.elim hq'
    | brk => exact False.elim hq'
    | cont => exact False.elim hq'
theorem de_make (M : Mk X.K C f) (F : DFn X.prog X.w X.K X.mg X.base k f fd ps p) (hr : Room (k + 1) X.A) (hgd : X.A.guards = some []) (hg : Gl X x) (hm : X.mg x = some (.ref C)) (hb : Binds X.K fd ps dus) (hd : Vals dvs dus) (hc : Closed (kz X B) dds dvs) (tk : DTk X B Wd)
    (ha : DA X B (e :: es) mr) (hdb : (x == ("__debug__" : Str)) = false := by decide) (he : starEach (e :: es) X.env = (false, eval e X.env) :: starEach es X.env := by rfl) (hpl : (backTo pos (starEach es X.env)).any (·.1) = false := by rfl) :
    DE X B (.Call (.Name x pc) (e :: es) [] pos) (dMake C p dds Wd mr) := by
  refine ⟨fun pins s σ H Q I ⟨env, S, Qd, st, q, fi⟩ => ?_⟩
  have args : cA (kz X B) B mr σ H fun vs H1 => ∃ ds S1, RepL (kz X B) S1 H1 ds vs ∧ StOk (kz X B) B S1 H1 env σ ∧ (∀ q, S1 q = none → p (.ref q :: (ds ++ dds)) (put S1 q (.obj C [] [])) (fun v S2 => v = .non ∧ Qd (.ref q) S2) (fun C ns ds S' => Wd C ns ds env S')) ∧ Fin (kz X B) S1 H1 Qd Q :=
    ⟨env, S, _, st, q, fun ds S1 vs H1 x1 R1 r1 q1 => ⟨ds, S1, r1, st.mono x1 R1, q1, fi.after x1⟩⟩
  refine wpAny_Call_Name_kw (ld_glob I hg hm ?_ hdb)
  refine PySem.W.callWith_K (h₀ := X.base) I.ok.mod.kin M.kp (thn (ha.run pos pins s σ H _ I args) fun us s1 ⟨vs, H1, I1, r, ds, S1, rd, st1, q1, f1⟩ => ⟨I1.kIn, ?_⟩) he hpl
  exact run_makeD M F hr hgd hb hd hc tk I1 st1 r rd q1 f1
theorem de_make0 (M : Mk X.K C f) (F : DFn X.prog X.w X.K X.mg X.base k f fd ps p) (hr : Room (k + 1) X.A) (hgd : X.A.guards = some []) (hg : Gl X x) (hm : X.mg x = some (.ref C)) (hb : Binds X.K fd ps dus) (hd : Vals dvs dus) (hc : Closed (kz X B) dds dvs) (tk : DTk X B Wd)
    (hdb : (x == ("__debug__" : Str)) = false := by decide) : DE X B (.Call (.Name x pc) [] [] pos) (dMake C p dds Wd dNil) := by
  refine ⟨fun pins s σ H Q I ⟨env, S, Qd, st, q, fi⟩ => ?_⟩
  refine wpAny_Call_Name_kw (ld_glob I hg hm ?_ hdb)
  exact PySem.W.callWith_K0 I.kIn M.kp (run_makeD (us := []) (ds := []) M F hr hgd hb hd hc tk I st .nil .nil q fi)
end
/-! ### deep settling -/
mutual
inductive LowD (S S' : Sto) : D → D → Prop
  | same (d : D) : LowD S S' d d
  | lst {a : Addr} {ds ds' : List D} : S a = some (.lst ds) → S' a = none → LowL S S' ds ds' → LowD S S' (.ref a) (.lst ds')
  | obj {a C : Addr} {ns : List Str} {ds ds' : List D} : S a = some (.obj C ns ds) → S' a = none → LowL S S' ds ds' → LowD S S' (.ref a) (.obj C ns ds')
  | tup {ds ds' : List D} : LowL S S' ds ds' → LowD S S' (.tup ds) (.tup ds')
  | slst {ds ds' : List D} : LowL S S' ds ds' → LowD S S' (.lst ds) (.lst ds')
inductive LowL (S S' : Sto) : List D → List D → Prop
  | nil : LowL S S' [] []
  | cons {d d' : D} {ds ds' : List D} : LowD S S' d d' → LowL S S' ds ds' → LowL S S' (d :: ds) (d' :: ds')
end
theorem LowL.same {S S' : Sto} : ∀ ds : List D, LowL S S' ds ds
  | [] => .nil
  | d :: ds => .cons (.same d) (LowL.same ds)
section
variable {K : Kz} {S S' : Sto} {H : Hp}
mutual
theorem LowD.rep (R : Rel K S H) (h : Sub S' S) : ∀ {d d' : D} {v : V}, LowD S S' d d' → Rep K S H d v → Rep K S' H d' v
  | _, _, _, .same d, r => Rep.mono R h.ext _ _ r
  | _, _, _, .lst e n l, r => by
    cases r
    obtain ⟨vs, q, z, rr⟩ := R.get _ _ e
    exact .lst (.inl ⟨n, R.nz' e, .inl q⟩) z (LowL.rep R h l rr)
  | _, _, _, .obj e n l, r => by
    cases r
    obtain ⟨dx, vs, q, z, rr⟩ := R.get _ _ e
    exact .obj n q z (LowL.rep R h l rr)
  | _, _, _, .tup l, r => by
    cases r with
    | tup q z rr => exact .tup q z (LowL.rep R h l rr)
  | _, _, _, .slst l, r => by
    cases r with
    | lst q z rr => exact .lst (h.ext.lst q) z (LowL.rep R h l rr)
theorem LowL.rep (R : Rel K S H) (h : Sub S' S) : ∀ {ds ds' : List D} {vs : List V}, LowL S S' ds ds' → RepL K S H ds vs → RepL K S' H ds' vs
  | _, _, _, .nil, r => by cases r; exact .nil
  | _, _, _, .cons a b, r => by
    cases r with
    | cons c d => exact .cons (LowD.rep R h a c) (LowL.rep R h b d)
end
end
/-- what is wanted, of a deeply lower telling -/
def lowsD (Q : DQ) : DQ := fun d S => ∃ d' S', Sub S' S ∧ LowD S S' d d' ∧ Q d' S'
theorem Fin.lowD {K : Kz} {S : Sto} {H : Hp} {Qd : DQ} {Q : VK} (f : Fin K S H Qd Q) : Fin K S H (lowsD Qd) Q := fun d S' v H' x R r ⟨d', S2, sb, l, q⟩ =>
  f d' S2 v H' (x.trans sb.ext) (R.sub sb) (l.rep R sb r) q
def dDeep (m : ME) : ME := fun env S Q => m env S (lowsD Q)
theorem de_deep {X : Cx} {B : Bs} {e : Expr} {m : ME} (h : DE X B e m) : DE X B e (dDeep m) := PE_imp h fun σ H Q ⟨env, S, Qd, s, q, f⟩ => ⟨env, S, _, s, q, f.lowD⟩
/-- the slots told deeply lower -/
inductive LowED (S S' : Sto) : DEnv → DEnv → Prop
  | nil : LowED S S' [] []
  | keep {d d' : D} {e e' : DEnv} : LowD S S' d d' → LowED S S' e e' → LowED S S' (some d :: e) (some d' :: e')
  | gone {d : Option D} {e e' : DEnv} : LowED S S' e e' → LowED S S' (d :: e) (none :: e')
theorem LowED.get {S S' : Sto} : ∀ {e e' : DEnv}, LowED S S' e e' → e'.length = e.length ∧ ∀ (i : Nat) d', e'[i]? = some (some d') → ∃ d, e[i]? = some (some d) ∧ LowD S S' d d'
  | _, _, .nil => ⟨rfl, fun i d' h => by simp at h⟩
  | _, _, .keep l r => by
    obtain ⟨h1, h2⟩ := r.get
    refine ⟨by rw [List.length_cons, List.length_cons, h1], fun i d' h => ?_⟩
    cases i with
    | zero => cases h; exact ⟨_, rfl, l⟩
    | succ i => exact h2 i d' h
  | _, _, .gone r => by
    obtain ⟨h1, h2⟩ := r.get
    refine ⟨by rw [List.length_cons, List.length_cons, h1], fun i d' h => ?_⟩
    cases i with
    | zero => cases h
    | succ i => exact h2 i d' h
def dDeepS (t : MS) : MS := fun D env S => ∃ env' S', Sub S' S ∧ LowED S S' env env' ∧ t D env' S'
theorem StOk.deep {K : Kz} {B : Bs} {S S' : Sto} {H : Hp} {env env' : DEnv} {σ : L2.St} (s : StOk K B S H env σ) (sb : Sub S' S) (l : LowED S S' env env') : StOk K B S' H env' σ := by
  obtain ⟨h1, h2⟩ := l.get
  refine ⟨⟨h1.trans s.env.len, fun i d' h => ?_⟩, s.rel.sub sb, s.base.trans sb.ext⟩
  obtain ⟨d, hd, lo⟩ := h2 i d' h
  obtain ⟨v, hv, r⟩ := s.env.get i d hd
  exact ⟨v, hv, lo.rep s.rel sb r⟩
theorem dss_deep {X : Cx} {B : Bs} {sts : List Stmt} {t : MS} (h : DSs X B sts t) : DSs X B sts (dDeepS t) := PSs_imp h fun D σ H ⟨env, S, Dd, s, ⟨env', S', sb, l, q⟩, f⟩ => ⟨env', S', Dd, s.deep sb l, q, f.after sb.ext⟩
theorem closed_non {K : Kz} : Closed K [.non] [.non] := fun _ _ => .cons .non .nil
/-! ### step lemmas -/
section
variable {m mo me : ME} {t mr : MA} {env : DEnv} {S : Sto} {Q : DQ} {D0 : DEnds} {C a : Addr} {f : Str} {p : DSp} {dds ds : List D} {Wd : WD} {d y : D} {ns : List Str}
def zFld (C : Addr) (f : Str) (Q : DQ) (d : D) (S1 : Sto) : Prop := match objOf S1 d with
  | some (C', ns, ds) => C' = C ∧ match getX f ns ds with
    | some y => Q y S1
    | none => False
  | none => False
theorem z_fld : dFld C f m env S Q = m env S (zFld C f Q) := rfl
theorem fld_do (h : objOf S d = some (C, ns, ds)) (g : getX f ns ds = some y) (q : Q y S) : zFld C f Q d S := by
  unfold zFld
  simp only [h, g]
  exact ⟨trivial, q⟩
def zSetF1 (C : Addr) (f : Str) (mo : ME) (D0 : DEnds) (env : DEnv) (y : D) (S1 : Sto) : Prop := mo env S1 fun d S2 => match d with
  | .ref a => match S2 a with
    | some (.obj C' ns ds) => C' = C ∧ ns.length < 1000 ∧ D0.nx env (put S2 a (.obj C (putN f ns) (putX f y ns ds)))
    | _ => False
  | _ => False
def zSetF2 (C : Addr) (f : Str) (D0 : DEnds) (env : DEnv) (y d : D) (S2 : Sto) : Prop := match d with
  | .ref a => match S2 a with
    | some (.obj C' ns ds) => C' = C ∧ ns.length < 1000 ∧ D0.nx env (put S2 a (.obj C (putN f ns) (putX f y ns ds)))
    | _ => False
  | _ => False
theorem z_setF : dSetF C f mo me D0 env S = me env S (zSetF1 C f mo D0 env) := rfl
theorem z_setF1 : zSetF1 C f mo D0 env y S = mo env S (zSetF2 C f D0 env y) := rfl
theorem setF_do (h : S a = some (.obj C ns ds)) (l : ns.length < 1000) (q : D0.nx env (put S a (.obj C (putN f ns) (putX f y ns ds)))) : zSetF2 C f D0 env y (.ref a) S := by
  unfold zSetF2
  simp only [h]
  exact ⟨trivial, l, q⟩
def zCallM1 (C : Addr) (mn : Str) (p : DSp) (dds : List D) (Wd : WD) (t : MA) (env : DEnv) (Q : DQ) (d : D) (S1 : Sto) : Prop := isInst C mn S1 d ∧ t env S1 fun ds S2 => p (d :: (ds ++ dds)) S2 Q (fun C ns ds S' => Wd C ns ds env S')
def zCallM2 (p : DSp) (dds : List D) (Wd : WD) (env : DEnv) (Q : DQ) (d : D) (ds : List D) (S2 : Sto) : Prop := p (d :: (ds ++ dds)) S2 Q (fun C ns ds S' => Wd C ns ds env S')
theorem z_callM {mn : Str} : dCallM C mn p dds Wd mo t env S Q = mo env S (zCallM1 C mn p dds Wd t env Q) := rfl
theorem z_callM1 {mn : Str} : zCallM1 C mn p dds Wd t env Q d S = (isInst C mn S d ∧ t env S (zCallM2 p dds Wd env Q d)) := rfl
theorem z_callM2 : zCallM2 p dds Wd env Q d ds S = p (d :: (ds ++ dds)) S Q (zX Wd env) := rfl
def zMake1 (C : Addr) (p : DSp) (dds : List D) (Wd : WD) (env : DEnv) (Q : DQ) (ds : List D) (S1 : Sto) : Prop := ∀ q, S1 q = none → p (.ref q :: (ds ++ dds)) (put S1 q (.obj C [] [])) (fun v S2 => v = .non ∧ Q (.ref q) S2) (fun C ns ds S' => Wd C ns ds env S')
def zMk (Q : DQ) (q : Addr) (v : D) (S2 : Sto) : Prop := v = .non ∧ Q (.ref q) S2
theorem z_make : dMake C p dds Wd t env S Q = t env S (zMake1 C p dds Wd env Q) := rfl
theorem z_make1 : zMake1 C p dds Wd env Q ds S = ∀ q, S q = none → p (.ref q :: (ds ++ dds)) (put S q (.obj C [] [])) (zMk Q q) (zX Wd env) := rfl
theorem z_mk {q : Addr} : zMk Q q .non S = Q (.ref q) S := by unfold zMk; simp
theorem z_deep : dDeep m env S Q = m env S (lowsD Q) := rfl
theorem inst_of {mn : Str} (h : objOf S d = some (C, ns, ds)) (n : mn ∉ ns) : isInst C mn S d := by
  unfold isInst
  simp only [h]
  exact ⟨trivial, n⟩
end
theorem lowsD_same {Q : DQ} {d : D} {S : Sto} (q : Q d S) : lowsD Q d S := ⟨d, S, Sub.refl, .same d, q⟩
end DL
/-! max of two, l.index(x), one sorted list of permutations. -/
namespace DL
open PySem PySem.Spec PyProof.Rows L2
def max2P : DN := fun ds S Q => match ds with
  | [.int i, .int j] => Q (.int (if j > i then j else i)) S
  | _ => False
theorem cad_max2 {K : Kz} : CallD K (fun xs H Q => ∃ i j, xs = [.int i, .int j] ∧ Q (.int (if j > i then j else i)) H) max2P := by
  intro S H ds vs Qd Q R r q f
  unfold max2P at q
  split at q
  · rename_i i j
    obtain ⟨v, w, rfl, rv, rw'⟩ := r.two
    cases rv; cases rw'
    exact ⟨i, j, rfl, f.here R (.int _) q⟩
  · exact q.elim
def min2P : DN := fun ds S Q => match ds with
  | [.int i, .int j] => Q (.int (if j < i then j else i)) S
  | _ => False
theorem cad_min2 {K : Kz} : CallD K (fun xs H Q => ∃ i j, xs = [.int i, .int j] ∧ Q (.int (if j < i then j else i)) H) min2P := by
  intro S H ds vs Qd Q R r q f
  unfold min2P at q
  split at q
  · rename_i i j
    obtain ⟨v, w, rfl, rv, rw'⟩ := r.two
    cases rv; cases rw'
    exact ⟨i, j, rfl, f.here R (.int _) q⟩
  · exact q.elim
theorem zo_max2 {i j : Int} {S : Sto} {Q : DQ} : max2P [.int i, .int j] S Q = Q (.int (if j > i then j else i)) S := rfl
theorem zo_min2 {i j : Int} {S : Sto} {Q : DQ} : min2P [.int i, .int j] S Q = Q (.int (if j < i then j else i)) S := rfl
/-- l.index(x) -/
def indexP : DM := fun x ds S Q => match ds with
  | [y] => match lstOf S x with
    | some xs => okE (.lst xs) = true ∧ okE y = true ∧ ∃ (j : Nat) (z : D), xs[j]? = some z ∧ eqD z y = true ∧ (∀ (m : Nat) (z' : D), m < j → xs[m]? = some z' → eqD z' y = false) ∧ Q (.int j) S
    | none => False
  | _ => False
theorem mtd_index {K : Kz} : MtD K (rIndexD K.K) indexP := by
  intro S H x v ds vs Qd Q R rx rd q f
  unfold indexP at q
  split at q
  · rename_i y
    obtain ⟨w, rfl, rw'⟩ := rd.single
    cases hs : lstOf S x with
    | none => simp only [hs] at q
    | some xs =>
      simp only [hs] at q
      obtain ⟨ok1, ok2, j, z, hz, e1, e2, q⟩ := q
      obtain ⟨a, us, rfl, sq, za, ra⟩ := lst_read R rx hs
      unfold okE at ok1 ok2
      rw [Bool.and_eq_true] at ok1 ok2
      refine ⟨a, w, py y, pyAll xs, j, py z, rfl, rfl, .lst sq (RepL.dp _ _ ok1.1 ra), Rep.dp _ _ ok2.1 rw', ok1.2, ok2.2, ?_, e1, fun m z' hm hz' => ?_, f.here R (.int _) q⟩
      · rw [pyAll_map, List.getElem?_map, hz]; rfl
      · rw [pyAll_map, List.getElem?_map] at hz'
        cases e : xs[m]? with
        | none => rw [e] at hz'; cases hz'
        | some z0 => rw [e] at hz'; cases hz'; exact e2 m z0 hm e
  · exact q.elim
section
variable {X : Cx} {B : Bs} {e o : Expr} {mo : ME} {mr : MA} {pc apos : Pos} {k : Nat}
theorem de_index (am : Amb X.A k) (ho : DE X B o mo) (ha : DA X B [e] mr) (hbase : attributeBase o "index" X.env (eval o X.env) = eval o X.env := by rfl)
    (hfew : ((backTo pc (starEach [e] X.env)).all (fun x => !x.1) && (backToKw pc (keywordEach [] X.env)).all (fun x => x.1.isSome) && decide ([e].length + ([] : List Keyword).length + (if ([] : List Keyword).isEmpty then 0 else 1) < 30)) = true := by rfl)
    (hline : (apos.endLine == pc.line) = true := by rfl) (hs : starEach [e] X.env = (false, eval e X.env) :: starEach [] X.env := by rfl) :
    DE X B (.Call (.Attribute o "index" apos) [e] [] pc) (dMeth "list" indexP mo mr) :=
  de_meth PySem.F.plainAttrs_list PySem.F.slot_list_index PySem.F.type_list_index (mt_indexD am.u65) mtd_index ho ha hbase hfew hline hs rfl
end
theorem index_do {x y : D} {xs : List D} {S : Sto} {Q : DQ} {j : Nat} {z : D} (h : lstOf S x = some xs) (o1 : okE (.lst xs) = true) (o2 : okE y = true) (hz : xs[j]? = some z) (e1 : eqD z y = true) (e2 : ∀ (m : Nat) (z' : D), m < j → xs[m]? = some z' → eqD z' y = false) (q : Q (.int j) S) : indexP x [y] S Q := by
  unfold indexP
  simp only [h]
  exact ⟨o1, o2, j, z, hz, e1, e2, q⟩
/-! sorted lists of permutations -/
theorem sort_perm_eq {α : Type} {lt : α → α → Bool} : ∀ {l m : List α}, l.Perm m → l.Pairwise (fun a b => lt b a = false) → m.Pairwise (fun a b => lt b a = false) → (∀ a ∈ l, ∀ b ∈ l, lt a b = false → lt b a = false → a = b) → l = m
  | [], m, p, _, _, _ => (List.Perm.nil_eq p)
  | x :: l, [], p, _, _, _ => absurd p.length_eq (by simp)
  | x :: l, y :: m, p, hl, hm, an => by
    have e : x = y := by
      have hy : y ∈ x :: l := p.mem_iff.mpr List.mem_cons_self
      have hx : x ∈ y :: m := p.mem_iff.mp List.mem_cons_self
      rcases List.mem_cons.mp hy with e | hy'
      · exact e.symm
      · rcases List.mem_cons.mp hx with e | hx'
        · exact e
        · exact an x List.mem_cons_self y hy ((List.pairwise_cons.mp hm).1 x hx') ((List.pairwise_cons.mp hl).1 y hy')
    subst e
    rw [sort_perm_eq p.cons_inv (List.pairwise_cons.mp hl).2 (List.pairwise_cons.mp hm).2 fun a ha b hb => an a (List.mem_cons_of_mem _ ha) b (List.mem_cons_of_mem _ hb)]
theorem eqv_of_not_lt {x y : PyData} (al : PySem.W.alike x y = true) (h1 : PySem.W.dataLt x y = false) (h2 : PySem.W.dataLt y x = false) : PyData.eqv x y = true := by
  have e : PySem.W.keyToks x = PySem.W.keyToks y := PyProof.Rows.lex_total (O := PyProof.Rows.itemOrd) _ _ h1 h2
  cases h : PyData.eqv x y with
  | true => rfl
  | false =>
    have t := (PySem.W.toks_eqv x y al).2 h [] [.inl 0]
    rw [e, PySem.W.lex_pre, PyProof.Rows.lex_irrefl] at t
    cases t
theorem ints_eqv : ∀ {xs ys : List Int}, PyData.eqvAll (pyAll (xs.map D.int)) (pyAll (ys.map D.int)) = true → xs = ys
  | [], [], _ => rfl
  | [], _ :: _, h => by simp [pyAll, PyData.eqvAll] at h
  | _ :: _, [], h => by simp [pyAll, PyData.eqvAll] at h
  | x :: xs, y :: ys, h => by
    simp only [List.map_cons, pyAll, py, PyData.eqvAll, PyData.eqv, Bool.and_eq_true] at h
    rw [ints_eqv h.2]
    have : x = y := by simpa using h.1
    rw [this]
theorem alike_ints : ∀ (xs ys : List Int), PySem.W.alikeAll (pyAll (xs.map D.int)) (pyAll (ys.map D.int)) = true
  | [], _ => by simp [pyAll, PySem.W.alikeAll]
  | _ :: _, [] => by simp [pyAll, PySem.W.alikeAll]
  | x :: xs, y :: ys => by
    have := alike_ints xs ys
    simpa [pyAll, py, PySem.W.alikeAll, PySem.W.alike] using this
/-- lists of ints -/
def lI (ns : List Int) : D := .lst (ns.map D.int)
theorem lI_alikes (l : List (List Int)) : alikes (l.map lI) := by
  refine ⟨plainAll_iff.mpr fun d hd => ?_, fun d hd d' hd' => ?_, .inr fun d hd => ?_, fun d hd => ?_⟩
  · obtain ⟨ns, _, rfl⟩ := List.mem_map.mp hd
    show plainAll (ns.map D.int) = true
    refine plainAll_iff.mpr fun x hx => ?_
    obtain ⟨i, _, rfl⟩ := List.mem_map.mp hx
    rfl
  · obtain ⟨x, hx, rfl⟩ := List.mem_map.mp hd
    obtain ⟨t, _, rfl⟩ := List.mem_map.mp hx
    obtain ⟨x', hx', rfl⟩ := List.mem_map.mp hd'
    obtain ⟨t', _, rfl⟩ := List.mem_map.mp hx'
    exact alike_ints t t'
  · obtain ⟨x, hx, rfl⟩ := List.mem_map.mp hd
    obtain ⟨t, _, rfl⟩ := List.mem_map.mp hx
    exact ⟨fun e => (nomatch (show PyData.list _ = PyData.none from e)), fun xs e => (nomatch (show PyData.list _ = PyData.tuple _ from e))⟩
  · obtain ⟨t, _, rfl⟩ := List.mem_map.mp hd
    rw [deep_py]
    have g : ∀ t : List Int, deepAll (t.map D.int) = 0 := by
      intro t
      induction t with
      | nil => rfl
      | cons x t ih => simp [deepAll, deepD, ih]
    have := g t
    show deepAll (t.map D.int) + 1 ≤ 64
    omega
theorem sortD_lI {l m : List (List Int)} (p : l.Perm m) : sortD (l.map lI) = sortD (m.map lI) := by
  have pl : (sortD (l.map lI)).Perm (sortD (m.map lI)) := (List.mergeSort_perm _ _).trans ((p.map lI).trans (List.mergeSort_perm _ _).symm)
  refine sort_perm_eq pl (sortD_srtd _) (sortD_srtd _) fun a ha b hb h1 h2 => ?_
  obtain ⟨x, _, rfl⟩ := List.mem_map.mp ((List.mergeSort_perm _ _).mem_iff.mp ha)
  obtain ⟨y, _, rfl⟩ := List.mem_map.mp ((List.mergeSort_perm _ _).mem_iff.mp hb)
  have := eqv_of_not_lt (x := py (lI x)) (y := py (lI y)) (alike_ints x y) h1 h2
  have e : x = y := ints_eqv (by simpa [lI, py, PyData.eqv] using this)
  rw [e]
theorem isort_perm_eq {l m : List Int} (p : l.Perm m) : isort l = isort m := by
  refine sort_perm_eq (lt := fun a b => decide (a < b)) ((isort_perm l).trans (p.trans (isort_perm m).symm)) ((isort_srtd l).imp fun {a b} h => ?_) ((isort_srtd m).imp fun {a b} h => ?_) fun a _ b _ h1 h2 => ?_
  · exact decide_eq_false (by omega)
  · exact decide_eq_false (by omega)
  · have := of_decide_eq_false h1; have := of_decide_eq_false h2; omega
theorem csort_perm_eq {l m : List C3} (p : l.Perm m) : csort l = csort m := csort_uniq (csort_srtd l) ((csort_perm l).trans p)
theorem eqD_refl {d : D} (h : lay d = true) : eqD d d = true := SeqAt.eqv_refl _ (lay_py d h).2.2
theorem Small.refl {k n : Nat} {d : D} (h : Small k n d) : eqD d d = true := eqD_refl h.1
theorem sort_ints {ns : List Int} {S : Sto} {Q : DQ} (q : Q (.lst ((isort ns).map D.int)) S) : sortP [.lst (ns.map D.int)] S Q := by
  unfold sortP
  simp only [seqOf_lst]
  exact .inl ⟨ns, rfl, q⟩
theorem small_intK {i : Int} {k : Nat} (h0 : -(2 ^ k) < i) (h1 : i < 2 ^ k) (hk : 0 < k) (hk2 : k ≤ 1900) : Small 0 (k + 3) (.int i) := by
  have := log2_lt_int h0 h1 hk
  refine ⟨decide_eq_true (by omega), Nat.le_refl _, ?_⟩
  show i.natAbs.log2 + 3 ≤ k + 3
  omega
end DL
/-! enumerate, extend, is True, s.index(c), drawn comprehensions. -/
namespace DL
open PySem PySem.Spec PyProof.Rows L2
/-! ### enumerate -/
def enumD (k : Nat) : List D → List D
  | [] => []
  | d :: ds => .tup [.int k, d] :: enumD (k + 1) ds
theorem enum_get : ∀ {ds : List D} {k i : Nat} {d : D}, (enumD k ds)[i]? = some d → ∃ x, ds[i]? = some x ∧ d = .tup [.int ((k + i : Nat) : Int), x]
  | [], _, _, _, h => by simp [enumD] at h
  | x :: ds, k, 0, d, h => by cases h; exact ⟨x, rfl, rfl⟩
  | x :: ds, k, i + 1, d, h => by
    obtain ⟨y, h1, h2⟩ := enum_get (ds := ds) (k := k + 1) (i := i) h
    refine ⟨y, h1, ?_⟩
    rw [h2]
    have e : k + 1 + i = k + (i + 1) := by omega
    rw [e]
theorem enum_len : ∀ {ds : List D} {k : Nat}, (enumD k ds).length = ds.length
  | [], _ => rfl
  | _ :: ds, k => by rw [enumD, List.length_cons, List.length_cons, enum_len]
theorem rel_pair {K : Kz} {S : Sto} {H : Hp} {T : Addr} {a b : D} {x y : V} (R : Rel K S H) (n : H T = none) (ra : Rep K S H a x) (rb : Rep K S H b y) :
    Ext S H S (upd H T (.tup [x, y])) ∧ Rel K S (upd H T (.tup [x, y])) ∧ Rep K S (upd H T (.tup [x, y])) (.tup [a, b]) (.ref T) := by
  have e : Ext S H S (upd H T (.tup [x, y])) := Ext.new n
  exact ⟨e, R.new n, .tup (.inl upd_same) (by show 2 ≤ _; rw [sizeLine_eq]; omega) (.cons (Rep.mono R e _ _ ra) (.cons (Rep.mono R e _ _ rb) .nil))⟩
theorem walks_enum {K : Kz} {S : Sto} {H : Hp} {a : Addr} {vs : List V} {ds : List D} (R : Rel K S H) (l : LsT K S H a vs) (r : RepL K S H ds vs) : WalksD K (Ite K.K a) (enumD 0 ds) okT S H := fun Z' hz S' H' x R' _ i => by
  have l' := ExtW.lst (K := ⟨K.K, Z'⟩) x (l.hide hz)
  have r' := RepL.monoW (K := ⟨K.K, Z'⟩) R.fr x _ _ (RepL.hide hz _ _ r)
  refine ⟨fun d hd => ?_, fun h => ⟨vs, l'.sq, by rw [← r.length, ← enum_len (k := 0)]; exact h⟩⟩
  obtain ⟨y, hy, rfl⟩ := enum_get hd
  obtain ⟨v, hv, rv⟩ := r'.get hy
  refine ⟨⟨vs, v, l'.sq, hv⟩, fun u H2 ⟨T, w, e1, nT, e2, hw⟩ => ?_⟩
  subst e1 e2
  have := hw vs l'.sq
  rw [hv] at this; cases this
  have e0 : ((0 + i : Nat) : Int) = ((i : Nat) : Int) := by rw [Nat.zero_add]
  rw [e0]
  exact rel_pair R' nT (.int _) rv
theorem walks_enumO {K : Kz} {S : Sto} {H : Hp} {a : Addr} {ds : List D} : WalksD K (Ite K.K a) (enumD 0 ds) (fun S => S a = some (.lst ds)) S H := fun Z' hz S' H' x R' o i => by
  obtain ⟨vs, q, z, r⟩ := R'.get a _ o
  have sq : SqL K.K H' a vs := .inl (.inl q)
  refine ⟨fun d hd => ?_, fun h => ⟨vs, sq, by rw [← r.length, ← enum_len (k := 0)]; exact h⟩⟩
  obtain ⟨y, hy, rfl⟩ := enum_get hd
  obtain ⟨v, hv, rv⟩ := r.get hy
  refine ⟨⟨vs, v, sq, hv⟩, fun u H2 ⟨T, w, e1, nT, e2, hw⟩ => ?_⟩
  subst e1 e2
  have := hw vs sq
  rw [hv] at this; cases this
  have e0 : ((0 + i : Nat) : Int) = ((i : Nat) : Int) := by rw [Nat.zero_add]
  rw [e0]
  exact rel_pair R' nT (.int _) rv
def dwEnum (t : MA) : MI := fun env S Q => t env S fun ds S1 => match ds with
  | [.lst xs] => Q (enumD 0 xs) okT S1
  | [.ref a] => match S1 a with
    | some (.lst xs) => Q (enumD 0 xs) (fun S => S a = some (.lst xs)) S1
    | _ => False
  | _ => False
section
variable {X : Cx} {B : Bs} {e o : Expr} {me mo : ME} {mr : MA} {pc pos tpos apos : Pos} {elts : List Expr} {kk k : Nat}
theorem di_enum (hg : Gl X "enumerate") (hm : X.mg "enumerate" = none) (ha : DA X B [e] mr) (hs : starEach [e] X.env = [(false, eval e X.env)] := by rfl) : DI X B (.Tuple elts kk tpos) (.Call (.Name "enumerate" pc) [e] [] pos) (dwEnum mr) := PI_imp (pi_enum hg hm ha hs) fun σ H R ⟨env, S, Qd, s, q, f⟩ => by
  refine ⟨env, S, _, s, q, fun ds S1 vs H1 x1 R1 r1 q1 => ?_⟩
  match ds, q1 with
  | [.lst xs], q1 =>
    obtain ⟨v, rfl, rv⟩ := r1.single
    cases rv with
    | lst l z r => exact ⟨_, _, rfl, l.sq, f _ _ S1 _ H1 x1 R1 (walks_enum R1 l r) (by rw [enum_len, r.length]; exact z) q1⟩
  | [.ref a], q1 =>
    obtain ⟨v, rfl, rv⟩ := r1.single
    cases rv
    cases h : S1 a with
    | none => simp only [h] at q1
    | some o =>
      cases o with
      | lst xs =>
        simp only [h] at q1
        obtain ⟨vs, q, z, r⟩ := R1.get a _ h
        exact ⟨a, vs, rfl, .inl (.inl q), f _ _ S1 _ H1 x1 R1 walks_enumO (by rw [enum_len, r.length]; exact z) q1⟩
      | _ => simp only [h] at q1
/-! ### l.extend(l2), both the store's -/
def extendP : DM := fun x ds S Q => match x, ds with
  | .ref a, [.ref b] => match S a, S b with
    | some (.lst xs), some (.lst ys) => xs.length + ys.length ≤ sizeLine ∧ Q .non (put S a (.lst (xs ++ ys)))
    | _, _ => False
  | _, _ => False
theorem mtd_extend {K : Kz} : MtD K rExtend extendP := by
  intro S H x v ds vs Qd Q R rx rd q f
  unfold extendP at q
  split at q
  · rename_i a b
    split at q
    · rename_i xs ys h1 h2
      cases rx
      obtain ⟨w, rfl, rw'⟩ := rd.single
      cases rw'
      obtain ⟨us, hu, z, rr⟩ := R.get a _ h1
      obtain ⟨us2, hu2, z2, rr2⟩ := R.get b _ h2
      have hz : us.length + us2.length ≤ sizeLine := by rw [← rr.length, ← rr2.length]; exact q.1
      obtain ⟨x3, R3⟩ := own_set (vs := us ++ us2) R h1 (by rw [List.length_append]; exact hz) (rr.append rr2)
      exact ⟨a, b, us, us2, rfl, rfl, hu, hu2, hz, f .non _ .non _ x3 R3 .non q.2⟩
    · exact q.elim
  · exact q.elim
theorem de_extend (ho : DE X B o mo) (ha : DA X B [e] mr) (hbase : attributeBase o "extend" X.env (eval o X.env) = eval o X.env := by rfl)
    (hfew : ((backTo pc (starEach [e] X.env)).all (fun x => !x.1) && (backToKw pc (keywordEach [] X.env)).all (fun x => x.1.isSome) && decide ([e].length + ([] : List Keyword).length + (if ([] : List Keyword).isEmpty then 0 else 1) < 30)) = true := by rfl)
    (hline : (apos.endLine == pc.line) = true := by rfl) (hs : starEach [e] X.env = (false, eval e X.env) :: starEach [] X.env := by rfl) :
    DE X B (.Call (.Attribute o "extend" apos) [e] [] pc) (dMeth "list" extendP mo mr) :=
  de_meth PySem.F.plainAttrs_list PySem.F.slot_list_extend PySem.F.type_list_extend mt_extend mtd_extend ho ha hbase hfew hline hs rfl
theorem extend_do {a b : Addr} {xs ys : List D} {S : Sto} {Q : DQ} (h1 : S a = some (.lst xs)) (h2 : S b = some (.lst ys)) (z : xs.length + ys.length ≤ sizeLine) (q : Q .non (put S a (.lst (xs ++ ys)))) : extendP (.ref a) [.ref b] S Q := by
  unfold extendP
  simp only [h1, h2]
  exact ⟨z, q⟩
/-! ### is True -/
def isBP : D2 := fun x y S Q => match x, y with
  | .bl a, .bl b => Q (.bl (decide (a = b))) S
  | _, _ => False
def isNotBP : D2 := fun x y S Q => match x, y with
  | .bl a, .bl b => Q (.bl (!decide (a = b))) S
  | _, _ => False
theorem opd_isB {K : Kz} : OpD K rIsB isBP := by
  intro S H x y v w Qd Q R rx ry q f
  unfold isBP at q
  split at q
  · cases rx; cases ry
    exact ⟨_, _, rfl, rfl, f.here R (.bl _) q⟩
  · exact q.elim
theorem opd_isNotB {K : Kz} : OpD K rNotB isNotBP := by
  intro S H x y v w Qd Q R rx ry q f
  unfold isNotBP at q
  split at q
  · cases rx; cases ry
    exact ⟨_, _, rfl, rfl, f.here R (.bl _) q⟩
  · exact q.elim
theorem cd_isB : CmpD X B .Is isBP := ⟨_, op_isBl, opd_isB⟩
theorem cd_isNotB : CmpD X B .IsNot isNotBP := ⟨_, op_notBl, opd_isNotB⟩
theorem zo_isB {a b : Bool} {S : Sto} {Q : DQ} : isBP (.bl a) (.bl b) S Q = Q (.bl (decide (a = b))) S := rfl
theorem zo_isNotB {a b : Bool} {S : Sto} {Q : DQ} : isNotBP (.bl a) (.bl b) S Q = Q (.bl (!decide (a = b))) S := rfl
/-! ### s.index(t) of a text -/
def sindexP : DM := fun x ds S Q => match x, ds with
  | .str a, [.str b] => ∃ (i : Nat) (r : List Nat), Builtin.Str.occurrences a b 0 a.length 1 = i :: r ∧ Q (.int i) S
  | _, _ => False
theorem mtd_sindex {K : Kz} : MtD K (fun x xs H Q => ∃ a b i rest, x = .str a ∧ xs = [.str b] ∧ Builtin.Str.occurrences a b 0 a.length 1 = i :: rest ∧ Q (.int (i : Nat)) H) sindexP := by
  intro S H x v ds vs Qd Q R rx rd q f
  unfold sindexP at q
  split at q
  · rename_i a b
    obtain ⟨i, r, e, q⟩ := q
    cases rx
    obtain ⟨w, rfl, rw'⟩ := rd.single
    cases rw'
    exact ⟨a, b, i, r, rfl, rfl, e, f.here R (.int _) q⟩
  · exact q.elim
theorem de_sindex (ho : DE X B o mo) (ha : DA X B [e] mr) (hbase : attributeBase o "index" X.env (eval o X.env) = eval o X.env := by rfl)
    (hfew : ((backTo pc (starEach [e] X.env)).all (fun x => !x.1) && (backToKw pc (keywordEach [] X.env)).all (fun x => x.1.isSome) && decide ([e].length + ([] : List Keyword).length + (if ([] : List Keyword).isEmpty then 0 else 1) < 30)) = true := by rfl)
    (hline : (apos.endLine == pc.line) = true := by rfl) (hs : starEach [e] X.env = (false, eval e X.env) :: starEach [] X.env := by rfl) :
    DE X B (.Call (.Attribute o "index" apos) [e] [] pc) (dMeth "str" sindexP mo mr) :=
  de_meth PySem.F.plainAttrs_str PySem.F.slot_str_index PySem.F.type_str_index mt_sindex mtd_sindex ho ha hbase hfew hline hs rfl
theorem sindex_sign {a : Str} {c : Nat} (h : c ∈ a.cps.toList) {S : Sto} {Q : DQ} (q : ∀ i : Nat, Q (.int i) S) : sindexP (.str a) [sgD c] S Q := by
  have f := PySem.StrLaws.found_one a c
  rw [decide_eq_true h] at f
  show ∃ (i : Nat) (r : List Nat), Builtin.Str.occurrences a ⟨#[c]⟩ 0 a.length 1 = i :: r ∧ Q (.int i) S
  cases e : Builtin.Str.occurrences a ⟨#[c]⟩ 0 a.length 1 with
  | nil => rw [e] at f; cases f
  | cons i r => exact ⟨i, r, rfl, q i⟩
end
/-! ### comprehensions that draw -/
theorem lc_drawn {i : Nat} {te : ME} {env0 : DEnv} {Q : List D → Sto → Prop} {a : Addr} {S0 S : Sto} (R : D → Prop) {all : List D} (D0 : DSt S0 a S)
    (h : ∀ d ∈ all, ∀ S (Q : DQ), DSt S0 a S → (∀ v S', R v → DSt S0 a S' → Q v S') → te (env0.set i (some d)) S Q) (q : ∀ acc S', acc.length = all.length → (∀ d ∈ acc, R d) → DSt S0 a S' → Q acc S') :
    lcR (dgName i) dYes te okT env0 Q all [] S :=
  lc_inv (fun k acc S => DSt S0 a S ∧ acc.length = k ∧ ∀ d ∈ acc, R d) ⟨D0, rfl, fun d h => (List.not_mem_nil h).elim⟩
    (fun k d acc S Z hd ⟨D1, hl, hr⟩ hz => ⟨trivial, h d (List.mem_of_getElem? hd) S _ D1 fun v S' rv D2 => hz _ _ ⟨D2, by rw [List.length_append, hl]; rfl, fun x hx => by
      rcases List.mem_append.mp hx with hx | hx
      · exact hr x hx
      · rw [List.mem_singleton.mp hx]; exact rv⟩⟩)
    (fun acc S ⟨D1, hl, hr⟩ => ⟨trivial, q acc S hl hr D1⟩)
/-- three drawn ints -/
theorem three_ints {acc : List D} {P : Int → Prop} (hl : acc.length = 3) (h : ∀ d ∈ acc, ∃ i : Int, d = .int i ∧ P i) : ∃ c : C3, acc = [.int c.1, .int c.2.1, .int c.2.2] ∧ ∀ k, P (cAt c k) := by
  obtain ⟨x, y, z, rfl⟩ : ∃ x y z, acc = [x, y, z] := by
    match acc, hl with
    | [x, y, z], _ => exact ⟨x, y, z, rfl⟩
  obtain ⟨cx, rfl, px⟩ := h x (by simp)
  obtain ⟨cy, rfl, py⟩ := h y (by simp)
  obtain ⟨cz, rfl, pz⟩ := h z (by simp)
  exact ⟨(cx, cy, cz), rfl, cAt_all px py pz⟩
/-! ### step lemmas -/
section
variable {mr : MA} {env : DEnv} {S : Sto} {xs : List D}
def zEnum (Q : List D → (Sto → Prop) → Sto → Prop) (ds : List D) (S1 : Sto) : Prop := match ds with
  | [.lst xs] => Q (enumD 0 xs) okT S1
  | [.ref a] => match S1 a with
    | some (.lst xs) => Q (enumD 0 xs) (fun S => S a = some (.lst xs)) S1
    | _ => False
  | _ => False
theorem z_enum {Q : List D → (Sto → Prop) → Sto → Prop} : dwEnum mr env S Q = mr env S (zEnum Q) := rfl
theorem z_enum1 {Q : List D → (Sto → Prop) → Sto → Prop} : zEnum Q [.lst xs] S = Q (enumD 0 xs) okT S := rfl
theorem enum_ref {Q : List D → (Sto → Prop) → Sto → Prop} {a : Addr} (h : S a = some (.lst xs)) (q : Q (enumD 0 xs) (fun S => S a = some (.lst xs)) S) : zEnum Q [.ref a] S := by
  unfold zEnum
  simp only [h]
  exact q
end
theorem plain_ty {S : Sto} {d : D} (h : plain d = true) : (tyName S d).isSome = true := by
  cases d <;> first | rfl | cases h
end DL
/-! Comprehensions over encoded lists; pieces and assemblies as trees. -/
namespace DL
open PySem PySem.Spec PyProof.Rows L2
/-- [f(x) for .. in xs], any target -/
theorem lcg {α : Type} {g : MG} {te : ME} {ok : Sto → Prop} {env0 : DEnv} {Q : List D → Sto → Prop} (e f : α → D) {S : Sto} {xs : List α} (ho : ok S) (h : ∀ x ∈ xs, ∀ Q : DQ, Q (f x) S → g (e x) env0 S fun env' S' => te env' S' Q) (q : Q (xs.map f) S) :
    lcR g dYes te ok env0 Q (xs.map e) [] S := by
  have go : ∀ (xs : List α) (acc : List D), (∀ x ∈ xs, ∀ Q : DQ, Q (f x) S → g (e x) env0 S fun env' S' => te env' S' Q) → Q (acc ++ xs.map f) S → lcR g dYes te ok env0 Q (xs.map e) acc S := by
    intro xs
    induction xs with
    | nil => intro acc _ q; exact ⟨ho, by rw [List.map_nil, List.append_nil] at q; exact q⟩
    | cons x xs ih =>
      intro acc h q
      refine ⟨ho, h x List.mem_cons_self _ ?_⟩
      refine ih _ (fun y hy => h y (List.mem_cons_of_mem _ hy)) ?_
      rw [List.append_assoc]
      exact q
  exact go xs [] h q
/-- .. with a test -/
theorem lcgf {α : Type} {g : MG} {tt : MT} {te : ME} {ok : Sto → Prop} {env0 : DEnv} {Q : List D → Sto → Prop} (e f : α → D) (p : α → Bool) {S : Sto} {xs : List α} (ho : ok S)
    (h : ∀ x ∈ xs, ∀ (Z : D → Sto → Prop) (N : Sto → Prop), (p x = true → Z (f x) S) → (p x = false → N S) → g (e x) env0 S fun env' S' => tt env' S' fun b S2 => if b = true then te env' S2 Z else N S2) (q : Q ((xs.filter p).map f) S) :
    lcR g tt te ok env0 Q (xs.map e) [] S := by
  have go : ∀ (xs : List α) (acc : List D), (∀ x ∈ xs, ∀ (Z : D → Sto → Prop) (N : Sto → Prop), (p x = true → Z (f x) S) → (p x = false → N S) → g (e x) env0 S fun env' S' => tt env' S' fun b S2 => if b = true then te env' S2 Z else N S2) →
      Q (acc ++ (xs.filter p).map f) S → lcR g tt te ok env0 Q (xs.map e) acc S := by
    intro xs
    induction xs with
    | nil => intro acc _ q; exact ⟨ho, by rw [List.filter_nil, List.map_nil, List.append_nil] at q; exact q⟩
    | cons x xs ih =>
      intro acc h q
      refine ⟨ho, h x List.mem_cons_self _ _ (fun hp => ?_) (fun hp => ?_)⟩
      · refine ih _ (fun y hy => h y (List.mem_cons_of_mem _ hy)) ?_
        rw [List.filter_cons_of_pos hp] at q
        rw [List.append_assoc]
        exact q
      · refine ih _ (fun y hy => h y (List.mem_cons_of_mem _ hy)) ?_
        rw [List.filter_cons_of_neg (by rw [hp]; exact Bool.false_ne_true)] at q
        exact q
  exact go xs [] h q
/-- [f(x, y) for x in xs for y in ys(x) if p(x, y)] -/
theorem lc2g {α β : Type} {i j : Nat} {tt1 : MT} {te : ME} {ok : Sto → Prop} {env0 : DEnv} {vs1 : List Nat} {wi1 : MI} {Q : List D → Sto → Prop} (e : α → D) (e2 : β → D) (ys : α → List β) (p : α → β → Bool) (f : α → β → D) {S : Sto} {xs : List α} {m : Nat} (ho : ok S)
    (hw : ∀ x ∈ xs, ∀ R : List D → (Sto → Prop) → Sto → Prop, R ((ys x).map e2) okT S → wi1 (env0.set i (some (e x))) S R)
    (ht : ∀ x ∈ xs, ∀ y ∈ ys x, ∀ R : Bool → Sto → Prop, R (p x y) S → tt1 ((dwipe (env0.set i (some (e x))) vs1).set j (some (e2 y))) S R)
    (he : ∀ x ∈ xs, ∀ y ∈ ys x, p x y = true → ∀ R : DQ, R (f x y) S → te ((dwipe (env0.set i (some (e x))) vs1).set j (some (e2 y))) S R)
    (hm : ∀ x ∈ xs, (ys x).length ≤ m) (hz : (xs.length + 1) * m ≤ 16777216) (q : Q (xs.flatMap fun x => ((ys x).filter (p x)).map (f x)) S) :
    lcR2 (dgName i) dYes wi1 (dgName j) tt1 te vs1 ok env0 Q (xs.map e) [] S := by
  have go : ∀ (xs : List α) (acc : List D), (∀ x ∈ xs, ∀ R : List D → (Sto → Prop) → Sto → Prop, R ((ys x).map e2) okT S → wi1 (env0.set i (some (e x))) S R) →
      (∀ x ∈ xs, ∀ y ∈ ys x, ∀ R : Bool → Sto → Prop, R (p x y) S → tt1 ((dwipe (env0.set i (some (e x))) vs1).set j (some (e2 y))) S R) →
      (∀ x ∈ xs, ∀ y ∈ ys x, p x y = true → ∀ R : DQ, R (f x y) S → te ((dwipe (env0.set i (some (e x))) vs1).set j (some (e2 y))) S R) →
      (∀ x ∈ xs, (ys x).length ≤ m) → acc.length + (xs.length + 1) * m ≤ 16777216 → Q (acc ++ xs.flatMap fun x => ((ys x).filter (p x)).map (f x)) S → lcR2 (dgName i) dYes wi1 (dgName j) tt1 te vs1 ok env0 Q (xs.map e) acc S := by
    intro xs
    induction xs with
    | nil => intro acc _ _ _ _ _ q; exact ⟨ho, by rw [List.flatMap_nil, List.append_nil] at q; exact q⟩
    | cons x xs ih =>
      intro acc hw ht he hm hz q
      rw [List.length_cons] at hz
      have hx := hm x List.mem_cons_self
      have e0 : (xs.length + 1 + 1) * m = (xs.length + 1) * m + m := by rw [Nat.add_mul (xs.length + 1) 1 m, Nat.one_mul]
      refine ⟨ho, hw x List.mem_cons_self _ ⟨by rw [List.length_map, sizeLine_eq]; omega, ?_⟩⟩
      have inner : ∀ (zs : List β) (acc : List D), (∀ y ∈ zs, y ∈ ys x) → acc.length + zs.length + (xs.length + 1) * m ≤ 16777216 → Q (acc ++ ((zs.filter (p x)).map (f x) ++ xs.flatMap fun x => ((ys x).filter (p x)).map (f x))) S →
          lcR (dgName j) tt1 te okT (dwipe (env0.set i (some (e x))) vs1) (fun acc' S4 => lcR2 (dgName i) dYes wi1 (dgName j) tt1 te vs1 ok env0 Q (xs.map e) acc' S4) (zs.map e2) acc S := by
        intro zs
        induction zs with
        | nil =>
          intro acc _ hz q
          refine ⟨trivial, ih acc (fun y hy => hw y (List.mem_cons_of_mem _ hy)) (fun y hy => ht y (List.mem_cons_of_mem _ hy)) (fun y hy => he y (List.mem_cons_of_mem _ hy)) (fun y hy => hm y (List.mem_cons_of_mem _ hy)) (by rw [List.length_nil] at hz; omega) ?_⟩
          exact q
        | cons z zs ihz =>
          intro acc hy hz q
          rw [List.length_cons] at hz
          refine ⟨trivial, ht x List.mem_cons_self z (hy z List.mem_cons_self) _ ?_⟩
          cases hp : p x z with
          | true =>
            refine iteT (he x List.mem_cons_self z (hy z List.mem_cons_self) hp _ ?_)
            refine ihz _ (fun y h => hy y (List.mem_cons_of_mem _ h)) (by rw [List.length_append, List.length_singleton]; omega) ?_
            rw [List.filter_cons_of_pos hp] at q
            rw [List.append_assoc]
            exact q
          | false =>
            refine iteF ?_
            refine ihz _ (fun y h => hy y (List.mem_cons_of_mem _ h)) (by omega) ?_
            rw [List.filter_cons_of_neg (by rw [hp]; exact Bool.false_ne_true)] at q
            exact q
      refine inner (ys x) acc (fun y h => h) (by omega) ?_
      rw [List.flatMap_cons] at q
      exact q
  exact go xs [] hw ht he hm (by simpa using hz) (by simpa using q)
/-! ### pieces -/
abbrev Piece := Str × List C3
def pcD (p : Piece) : D := .tup [.str p.1, .tup (p.2.map cD)]
abbrev fPcs : List Str := [("_pieces" : Str)]
/-- an assembly of the class at C -/
def asmD (C : Addr) (ps : List Piece) : D := .obj C fPcs [.lst (ps.map pcD)]
/-- an object whose one field holds these pieces -/
def holdsP (C : Addr) (S : Sto) (d : D) (ps : List Piece) : Prop := ∃ y, objOf S d = some (C, fPcs, [y]) ∧ seqOf S y = some (ps.map pcD)
theorem holds_asm {C : Addr} {S : Sto} {ps : List Piece} : holdsP C S (asmD C ps) ps := ⟨_, rfl, rfl⟩
/-- small texts -/
def nmOk (s : Str) : Prop := s.length ≤ 8 ∧ PyData.strOk s = true
theorem nm_small {s : Str} (h : nmOk s) : Small 0 82 (.str s) := small_str (n := 8) h.1 h.2
theorem nms_small {ts : List Str} {m : Nat} (h : ∀ s ∈ ts, nmOk s) (hl : ts.length ≤ m) : Small 1 (84 * m + 3) (.lst (ts.map D.str)) := small_lst (k := 0) (n := 82) (m := m) (by rw [List.length_map]; exact hl) fun x hx => by
  obtain ⟨s, hs, rfl⟩ := List.mem_map.mp hx
  exact nm_small (h s hs)
theorem eqD_str {a b : Str} : eqD (.str a) (.str b) = decide (a = b) := by
  unfold eqD
  simp only [py, PyData.eqv]
  by_cases h : a = b
  · subst h; simp
  · simp [h]
theorem any_strs {ts : List Str} {s : Str} : (ts.map D.str).any (fun z => eqD z (.str s)) = decide (s ∈ ts) := by
  rw [Bool.eq_iff_iff, List.any_eq_true, decide_eq_true_eq]
  constructor
  · rintro ⟨z, hz, e⟩
    obtain ⟨b, hb, rfl⟩ := List.mem_map.mp hz
    rw [eqD_str, decide_eq_true_eq] at e
    rw [← e]; exact hb
  · intro h
    exact ⟨.str s, List.mem_map.mpr ⟨s, h, rfl⟩, by rw [eqD_str]; exact decide_eq_true rfl⟩
/-- s in l, of texts -/
theorem in_strs {neg : Bool} {s : Str} {y : D} {ts : List Str} {S : Sto} {Q : DQ} (h : seqOf S y = some (ts.map D.str)) (hs : nmOk s) (ht : ∀ s ∈ ts, nmOk s) (q : Q (.bl (neg != decide (s ∈ ts))) S) : inP neg (.str s) y S Q := by
  refine in_do h ((nm_small hs).okE (by decide)) ((nms_small (m := ts.length) ht (Nat.le_refl _)).okE (by decide)) ?_
  rw [any_strs]
  exact q
/-- c in l, of cells -/
theorem in_cells {neg : Bool} {c : C3} {y : D} {cs : List C3} {S : Sto} {Q : DQ} (h : seqOf S y = some (cs.map cD)) (hc : ∀ k, -(2 ^ 60) < cAt c k ∧ cAt c k < 2 ^ 60) (hs : ∀ c ∈ cs, ∀ k, -(2 ^ 60) < cAt c k ∧ cAt c k < 2 ^ 60) (q : Q (.bl (neg != decide (c ∈ cs))) S) : inP neg (cD c) y S Q := by
  refine in_do h ((small_cell hc).okE (by decide)) ((small_cells (m := cs.length) (Nat.le_refl _) hs).okE (by decide)) ?_
  rw [any_cells]
  exact q
end DL
/-! zip of two, lists or tuples in any mix. -/
namespace DL
open PySem PySem.Spec PyProof.Rows L2
/-- a list's (false) or a tuple's (true) -/
def itAt : Bool → Heap → Addr → Addr → Nat → Prop
  | true, h, it, l, i => h.IsTupleIter it l i
  | false, h, it, l, i => h.IsListIter it l i
def sqAt : Bool → Heap → Addr → Array Value → Prop
  | true, h, l, its => h.IsTuple l its
  | false, h, l, its => h.IsList l its
def SqA (K : PySem.W.Frag) (H : Hp) : Bool → Addr → List V → Prop
  | true, a, xs => SqT K H a xs
  | false, a, xs => SqL K H a xs
def itObj : Bool → Addr → Obj
  | true, a => { cls := .type "tuple_iterator", data := .fields #[.ref a, .int 0 0] }
  | false, a => { cls := .type "list_iterator", data := .fields #[.ref a, .int 0 0] }
theorem begins_sq : ∀ (k : Bool) (a : Addr) (its : Array Value), Begins (.ref a) (itObj k a) (fun h => sqAt k h a its)
  | true, a, its => begins_tuple a its
  | false, a, its => begins_list a its
theorem itAt_new {h : Heap} {it a : Addr} : ∀ {k : Bool}, h.get? it = some (itObj k a) → itAt k h it a 0
  | true, e => ⟨_, e, rfl, rfl⟩
  | false, e => ⟨_, e, rfl, rfl⟩
theorem itAt_at {h h' : Heap} {it l : Addr} {i : Nat} : ∀ {k : Bool}, itAt k h it l i → (∀ o, h.get? it = some o → h'.get? it = some o) → itAt k h' it l i
  | true, x, e => let ⟨o, ho, r⟩ := x; ⟨o, e _ ho, r⟩
  | false, x, e => let ⟨o, ho, r⟩ := x; ⟨o, e _ ho, r⟩
theorem itAt_obj {h : Heap} {it l : Addr} {i : Nat} : ∀ {k : Bool}, itAt k h it l i → ∃ o, h.get? it = some o ∧ ∀ v, o.data ≠ .cell v
  | true, ⟨o, ho, hc, hd⟩ => ⟨o, ho, fun v q => by rw [hd] at q; cases q⟩
  | false, ⟨o, ho, hc, hd⟩ => ⟨o, ho, fun v q => by rw [hd] at q; cases q⟩
theorem draws_sq {P : Program} {w : World} {A : Around} (hh : A.handled = none) (it l : Addr) (hne : l ≠ it) (its : Array Value) : ∀ k : Bool, Draws P w A it [it, l] its.size (fun i v => its[i]? = some v) (fun i h => itAt k h it l i ∧ sqAt k h l its)
  | true => Draws.tuple hh it l hne its
  | false => Draws.list hh it l hne its
/-- .. as far as the turn at i goes -/
theorem draws_end {P : Program} {w : World} {A : Around} (hh : A.handled = none) {it l : Addr} (hne : l ≠ it) {its : Array Value} {k : Bool} {h : Heap} {i : Nat} (hi : itAt k h it l i) (hl : sqAt k h l its) :
    ∃ n Pv St, Draws P w A it [it, l] n Pv St ∧ St i h ∧ i ≤ n ∧ (its.size ≤ i → i = n) := by
  by_cases hle : i ≤ its.size
  · exact ⟨_, _, _, draws_sq hh it l hne its k, ⟨hi, hl⟩, hle, fun z => Nat.le_antisymm hle z⟩
  · have hno : its[i]? = none := by simp; omega
    refine ⟨i, fun _ _ => True, fun j h' => j = i ∧ itAt k h' it l i ∧ sqAt k h' l its, ⟨fun j h' st => ?_, fun j h' h2 st q => ?_, fun j s Q E lt st => ?_, fun s Q E st q => ?_⟩, ⟨rfl, hi, hl⟩, Nat.le_refl _, fun _ => rfl⟩
    · obtain ⟨o, ho, _⟩ := itAt_obj st.2.1
      exact ⟨o, ho⟩
    · refine ⟨st.1, itAt_at st.2.1 fun o e => q it (by simp) o e, ?_⟩
      cases k with
      | true => exact st.2.2.at fun o e => q l (by simp) o e
      | false => exact st.2.2.at fun o e => q l (by simp) o e
    · exact absurd st.1 (Nat.ne_of_lt lt)
    · cases k with
      | true => exact wpAny_nextOf_tuple_end hh st.2.1 st.2.2 hno q
      | false => exact wpAny_nextOf_list_end hh st.2.1 st.2.2 hno q
def ItzA (K : PySem.W.Frag) (k k2 : Bool) (a b : Addr) : It :=
  ⟨fun i H => ∃ (xs ys : List V) (x y : V), SqA K H k a xs ∧ SqA K H k2 b ys ∧ xs[i]? = some x ∧ ys[i]? = some y,
    fun i H v H' => ∃ T x y, v = .ref T ∧ H T = none ∧ H' = upd H T (.tup [x, y]) ∧ (∀ xs, SqA K H k a xs → xs[i]? = some x) ∧ ∀ ys, SqA K H k2 b ys → ys[i]? = some y,
    fun i H => ∃ xs ys : List V, SqA K H k a xs ∧ SqA K H k2 b ys ∧ (xs.length ≤ i ∨ ys.length ≤ i)⟩
section
variable {X : Cx} {pins : List (Addr × Obj)} {σ : L2.St} {H : Hp} {s : Shared}
theorem sq_inv (I : Inv X pins σ H s) : ∀ {k : Bool} {a : Addr} {xs : List V}, SqA X.K H k a xs → ∃ its : List Value, Vals xs its ∧ sqAt k s.heap a its.toArray
  | true, a, xs, q => by
    obtain ⟨its, rv, p, _⟩ := I.tuple q
    exact ⟨its, rv, p⟩
  | false, a, xs, q => by
    obtain ⟨its, rv, p, _⟩ := I.list q
    exact ⟨its, rv, p.isList⟩
theorem sq_inj (I : Inv X pins σ H s) : ∀ {k : Bool} {a : Addr} {xs ys : List V}, SqA X.K H k a xs → SqA X.K H k a ys → xs = ys
  | true, _, _, _, q, q' => I.tuple_inj q q'
  | false, _, _, _, q, q' => I.list_inj q q'
theorem sqAt_lt {h : Heap} {a : Addr} {its : Array Value} : ∀ {k : Bool}, sqAt k h a its → a < h.objs.size
  | true, ⟨o, ho, _⟩ => Heap.lt_size ho
  | false, ⟨o, ho, _⟩ => Heap.lt_size ho
end
theorem turn_zipA {P : Program} {w : World} {K : PySem.W.Frag} {elts : List Expr} {kk : Nat} {tpos : Pos} {k k2 : Bool} {a b z TI TO i1 i2 : Addr} (D : ZipSep2 z TI TO i1 i2 [i1, a] [i2, b]) (ha : a ≠ i1) (hb : b ≠ i2) :
    Turn P w K (.Tuple elts kk tpos) (ItzA K k k2 a b) [z, TI, TO, i1, i2] z (fun i h => IsZip h z TI TO .none ∧ IsTupOf2 h TI (.ref i1) (.ref i2) ∧ (∃ x y, IsTupOf2 h TO x y) ∧ itAt k h i1 a i ∧ itAt k2 h i2 b i) where
  mem := by simp
  obj := fun i h st c hc => by
    obtain ⟨hz, hTI, ⟨x, y, hTO⟩, h1, h2⟩ := st
    simp only [List.mem_cons, List.mem_nil_iff, or_false] at hc
    rcases hc with rfl | rfl | rfl | rfl | rfl
    · exact ⟨_, hz, fun v q => nomatch q⟩
    · exact ⟨_, hTI, fun v q => nomatch q⟩
    · exact ⟨_, hTO, fun v q => nomatch q⟩
    · exact itAt_obj h1
    · exact itAt_obj h2
  keep := fun i h h' st q => by
    obtain ⟨hz, hTI, ⟨x, y, hTO⟩, h1, h2⟩ := st
    exact ⟨q _ (by simp) _ hz, q _ (by simp) _ hTI, ⟨x, y, q _ (by simp) _ hTO⟩, itAt_at h1 fun o e => q _ (by simp) o e, itAt_at h2 fun o e => q _ (by simp) o e⟩
  item := by
    intro X hP hw hK hc i pins s σ H E I hf st hg
    subst hP hw hK
    obtain ⟨hz, hTI, ⟨x0, y0, hTO⟩, h1, h2⟩ := st
    obtain ⟨xs, ys, x, y, hqx, hqy, hx, hy⟩ := hg
    obtain ⟨its, rv, p⟩ := sq_inv I hqx
    obtain ⟨its2, rv2, p2⟩ := sq_inv I hqy
    obtain ⟨u, hu, ru⟩ := rv.get hx
    obtain ⟨u2, hu2, ru2⟩ := rv2.get hy
    have l1 : i < its.toArray.size := by simpa using (List.getElem?_eq_some_iff.mp hu).1
    have l2 : i < its2.toArray.size := by simpa using (List.getElem?_eq_some_iff.mp hu2).1
    have hh := I.ok.hd hc
    have lt : ∀ {c o}, s.heap.get? c = some o → c < s.heap.objs.size := fun e => Heap.lt_size e
    have li1 : i1 < s.heap.objs.size := by obtain ⟨o, ho, _⟩ := itAt_obj h1; exact lt ho
    have li2 : i2 < s.heap.objs.size := by obtain ⟨o, ho, _⟩ := itAt_obj h2; exact lt ho
    refine wpAny_pyNext_zipD2_item D (draws_sq (A := X.A.in1) hh i1 a ha its.toArray k) (draws_sq (A := X.A.in1) hh i2 b hb its2.toArray k2) hz hTI hTO ⟨h1, p⟩ ⟨h2, p2⟩ l1 l2 fun v1 v2 h' tk e1 e2 hz' hTO' st1 st2 hT hsz hk => ?_
    have e1 : v1 = u := by simpa [hu] using e1.symm
    have e2 : v2 = u2 := by simpa [hu2] using e2.symm
    subst e1 e2
    refine ⟨_, rfl, wpAny_letOwnedTupleGo_zip (s := { s with heap := h', toks := tk }) hz' fun h'' hz'' sb => ?_⟩
    have zn : z < s.heap.objs.size := lt hz
    have hT2 : h''.get? s.heap.objs.size = some { cls := .type "tuple", data := .seq #[v1, v2] } := (sb.2 _ (Nat.ne_of_gt zn)).trans hT
    have new : ObjOk X.prog X.w (upd H s.heap.objs.size (.tup [x, y])) h'' s.heap.objs.size (.tup [x, y]) :=
      ⟨by show 2 ≤ sizeLine; decide, [v1, v2], .cons ru (.cons ru2 .nil), ⟨_, hT2, rfl, _, rfl⟩⟩
    have I1 : Inv X pins σ (upd H s.heap.objs.size (.tup [x, y])) { s with heap := h'', toks := tk } :=
      I.turnedNew (t' := tk) (ch := [z, TI, TO, i1, i2]) (fun c o hn q => (sb.2 c (fun e => hn (by simp [e]))).trans (hk c o (fun e => hn (by simp [e])) (fun e => hn (by simp [e])) (fun e => hn (by simp [e])) (fun e => hn (by simp [e])) q)) hf (Nat.le_refl _) new
    refine ⟨.ref s.heap.objs.size, _, I1, rfl, ⟨_, x, y, rfl, I.hok.fresh (Nat.le_refl _), rfl, fun l hl => by rw [sq_inj I hl hqx]; exact hx, fun l hl => by rw [sq_inj I hl hqy]; exact hy⟩, ⟨hz'', ?_, ⟨_, _, (sb.2 _ D.TOz).trans hTO'⟩, itAt_at st1.1 fun o q => (sb.2 _ (Ne.symm D.zi1)).trans q, itAt_at st2.1 fun o q => (sb.2 _ (Ne.symm D.zi2)).trans q⟩, fun c hcm => ?_⟩
    · exact (sb.2 _ D.TIz).trans (hk _ _ D.TIz D.TITO D.TIi1 D.TIi2 hTI)
    · have cl : c < s.heap.objs.size := by
        have e' := hcm
        simp only [List.mem_cons, List.mem_nil_iff, or_false] at e'
        rcases e' with rfl | rfl | rfl | rfl | rfl
        · exact zn
        · exact lt hTI
        · exact lt hTO
        · exact li1
        · exact li2
      rw [upd_ne (Nat.ne_of_lt cl)]
      exact (hf c hcm).1
  done := by
    intro X hP hw hK hc i pins s σ H E I hf st hg
    subst hP hw hK
    obtain ⟨hz, hTI, ⟨x0, y0, hTO⟩, h1, h2⟩ := st
    obtain ⟨xs, ys, hqx, hqy, hend⟩ := hg
    obtain ⟨its, rv, p⟩ := sq_inv I hqx
    obtain ⟨its2, rv2, p2⟩ := sq_inv I hqy
    have hh := I.ok.hd hc
    obtain ⟨n1, P1, St1, D1, s1, le1, en1⟩ := draws_end (P := X.prog) (w := X.w) (A := X.A.in1) hh ha h1 p
    obtain ⟨n2, P2, St2, D2, s2, le2, en2⟩ := draws_end (P := X.prog) (w := X.w) (A := X.A.in1) hh hb h2 p2
    have m1 := rv.length
    have m2 := rv2.length
    refine wpAny_pyNext_zipD2_end D D1 D2 hz hTI hTO s1 s2 le1 le2 ?_ fun h' tk hk => ⟨rfl, I.turnedL (t' := tk) (ch := [z, TI, TO, i1, i2]) (fun c o hn q => hk c o (fun e => hn (by simp [e])) (fun e => hn (by simp [e])) (fun e => hn (by simp [e])) (fun e => hn (by simp [e])) q) hf⟩
    rcases hend with q | q
    · exact .inl (en1 (by rw [List.size_toArray, ← m1]; exact q))
    · exact .inr (en2 (by rw [List.size_toArray, ← m2]; exact q))
  self := fun A i s Q E st h => wpAny_pyIter_zip st.1 h
def iZipM (K : PySem.W.Frag) (ta : TA) : TI := fun σ H R => ta σ H fun vs H1 => ∃ a b xs ys k k2, vs = [.ref a, .ref b] ∧ SqA K H1 k a xs ∧ SqA K H1 k2 b ys ∧ R (ItzA K k k2 a b) H1
theorem pi_zipM {X : Cx} {e e2 : Expr} {ta : TA} {p pos tpos : Pos} {elts : List Expr} {kk : Nat} (hg : Gl X "zip") (hm : X.mg "zip" = none) (ha : PA X [e, e2] ta)
    (hs : starEach [e, e2] X.env = (false, eval e X.env) :: starEach [e2] X.env) (hpl : (backTo pos (starEach [e2] X.env)).any (·.1) = false) :
    PI X (.Tuple elts kk tpos) (.Call (.Name "zip" p) [e, e2] [] pos) (iZipM X.K ta) := by
  refine ⟨fun pins s σ H R I h => ?_⟩
  refine Call_ (ld_blt I hg hm boot_zip (callWith_type1 (thn (ha.run pos pins s σ H _ I h) fun us s1 ⟨vs, H1, I1, r1, q1⟩ => ?_) hs hpl))
  obtain ⟨a, b, xs, ys, k, k2, rfl, hqx, hqy, q⟩ := q1
  obtain ⟨u, u2, rfl, ra, rb⟩ : ∃ u u2, us = [u, u2] ∧ RelV (.ref a) u ∧ RelV (.ref b) u2 := by
    cases r1 with
    | cons r rr =>
      cases rr with
      | cons r' rr =>
        cases rr
        exact ⟨_, _, rfl, r, r'⟩
  cases ra
  cases rb
  obtain ⟨its, rv, p1⟩ := sq_inv I1 hqx
  obtain ⟨its2, rv2, p2⟩ := sq_inv I1 hqy
  have la := sqAt_lt p1
  have lb := sqAt_lt p2
  refine zip_begins2 (begins_sq k a its.toArray) (begins_sq k2 b its2.toArray) p1 p2 fun h' hz hTI hTO h1 h2 hsz hk => wpAny_pyIter_zip hz ?_
  refine ⟨s1.heap.objs.size + 4, [s1.heap.objs.size + 4, s1.heap.objs.size + 2, s1.heap.objs.size + 3, s1.heap.objs.size, s1.heap.objs.size + 1], _, _, H1, rfl, I1.kept (t' := s1.toks) hk, turn_zipA (zip_sep2 (fun c hc => ?_) fun c hc => ?_) (Nat.ne_of_lt la) (Nat.ne_of_lt (Nat.lt_succ_of_lt lb)), ⟨hz, hTI, ⟨_, _, hTO⟩, itAt_new h1, itAt_new h2⟩, fun c hc => ?_, q⟩
  · rw [List.mem_singleton.mp hc]; exact la
  · rw [List.mem_singleton.mp hc]; exact lb
  · have hle : s1.heap.objs.size ≤ c := by
      simp only [List.mem_cons, List.mem_nil_iff, or_false] at hc
      rcases hc with rfl | rfl | rfl | rfl | rfl <;> omega
    exact I1.fpOk hle (I1.hok.fresh hle)
/-! ### over trees -/
def zipD : List D → List D → List D := List.zipWith fun x y => .tup [x, y]
theorem zipD_get {xs ys : List D} {i : Nat} {d : D} (h : (zipD xs ys)[i]? = some d) : ∃ x y, xs[i]? = some x ∧ ys[i]? = some y ∧ d = .tup [x, y] := by
  unfold zipD at h
  rw [List.getElem?_zipWith] at h
  cases h1 : xs[i]? with
  | none => simp [h1] at h
  | some x =>
    cases h2 : ys[i]? with
    | none => simp [h1, h2] at h
    | some y =>
      simp [h1, h2] at h
      exact ⟨x, y, rfl, rfl, h.symm⟩
theorem zipD_len {xs ys : List D} : (zipD xs ys).length = min xs.length ys.length := by unfold zipD; exact List.length_zipWith
/-- it stands as it was -/
def okOf (S1 : Sto) : D → Sto → Prop
  | .ref a => fun S => S a = S1 a
  | _ => okT
/-- where the items of a settled list, an owned one or a tuple are -/
structure AtSeq (K : Kz) (S1 : Sto) (H1 : Hp) (d : D) (ds : List D) (a : Addr) (k : Bool) (xs : List V) : Prop where
  len : ds.length ≤ sizeLine
  sq : SqA K.K H1 k a xs
  n : xs.length = ds.length
  on : ∀ Z' : Addr → Prop, (∀ c, Z' c → K.Z c ∨ H1 c = none) → ∀ S H, ExtW Z' S1 H1 S H → Rel ⟨K.K, Z'⟩ S H → okOf S1 d S → ∃ ys, SqA K.K H k a ys ∧ RepL ⟨K.K, Z'⟩ S H ds ys
theorem at_seq {K : Kz} {S1 : Sto} {H1 : Hp} {d : D} {v : V} {ds : List D} (R : Rel K S1 H1) (r : Rep K S1 H1 d v) (h : seqOf S1 d = some ds) : ∃ a k xs, v = .ref a ∧ AtSeq K S1 H1 d ds a k xs := by
  cases d with
  | tup es =>
    cases h
    cases r with
    | tup l z r => exact ⟨_, true, _, rfl, by rw [r.length]; exact z, l.sq, r.length.symm, fun Z' hz S H x R' _ => ⟨_, ExtW.tup (K := K) R.fr x l.sq, RepL.monoW (K := ⟨K.K, Z'⟩) R.fr x _ _ (RepL.hide hz _ _ r)⟩⟩
  | lst es =>
    cases h
    cases r with
    | lst l z r => exact ⟨_, false, _, rfl, by rw [r.length]; exact z, l.sq, r.length.symm, fun Z' hz S H x R' _ => ⟨_, (ExtW.lst (K := ⟨K.K, Z'⟩) x (l.hide hz)).sq, RepL.monoW (K := ⟨K.K, Z'⟩) R.fr x _ _ (RepL.hide hz _ _ r)⟩⟩
  | ref a =>
    cases r
    cases e : S1 a with
    | none => simp [seqOf, lstOf, e] at h
    | some o =>
      cases o with
      | lst es =>
        have he : es = ds := by simpa [seqOf, lstOf, e] using h
        subst he
        obtain ⟨vs, q, z, r⟩ := R.get a _ e
        refine ⟨a, false, vs, rfl, by rw [r.length]; exact z, .inl (.inl q), r.length.symm, fun Z' hz S H x R' o => ?_⟩
        obtain ⟨us, q', z', r'⟩ := R'.get a _ (o.trans e)
        exact ⟨us, .inl (.inl q'), r'⟩
      | _ => simp [seqOf, lstOf, e] at h
  | _ => simp [seqOf, lstOf] at h
theorem walks_zip {K : Kz} {S1 : Sto} {H1 : Hp} {d d2 : D} {ds es : List D} {a b : Addr} {k k2 : Bool} {xs ys : List V} (p : AtSeq K S1 H1 d ds a k xs) (p2 : AtSeq K S1 H1 d2 es b k2 ys) :
    WalksD K (ItzA K.K k k2 a b) (zipD ds es) (fun S => okOf S1 d S ∧ okOf S1 d2 S) S1 H1 := fun Z' hz S H x R ok i => by
  obtain ⟨us, q, r⟩ := p.on Z' hz S H x R ok.1
  obtain ⟨us2, q2, r2⟩ := p2.on Z' hz S H x R ok.2
  refine ⟨fun t ht => ?_, fun hl => ⟨us, us2, q, q2, ?_⟩⟩
  · obtain ⟨e, e2, he, he2, rfl⟩ := zipD_get ht
    obtain ⟨v, hv, rv⟩ := r.get he
    obtain ⟨v2, hv2, rv2⟩ := r2.get he2
    refine ⟨⟨us, us2, v, v2, q, q2, hv, hv2⟩, fun u H2 ⟨T, w, w2, e1, nT, e3, f, f2⟩ => ?_⟩
    subst e1 e3
    have g := f us q
    have g2 := f2 us2 q2
    rw [hv] at g
    rw [hv2] at g2
    cases g
    cases g2
    exact rel_pair R nT rv rv2
  · rw [zipD_len, r.length, r2.length] at hl
    omega
def zZip (Q : List D → (Sto → Prop) → Sto → Prop) (ts : List D) (S1 : Sto) : Prop := match ts with
  | [d, d2] => ∃ ds es, seqOf S1 d = some ds ∧ seqOf S1 d2 = some es ∧ Q (zipD ds es) (fun S => okOf S1 d S ∧ okOf S1 d2 S) S1
  | _ => False
def dwZip (t : MA) : MI := fun env S Q => t env S (zZip Q)
theorem di_zip {X : Cx} {B : Bs} {e e2 : Expr} {mr : MA} {pc pos tpos : Pos} {elts : List Expr} {kk : Nat} (hg : Gl X "zip") (hm : X.mg "zip" = none) (ha : DA X B [e, e2] mr)
    (hs : starEach [e, e2] X.env = (false, eval e X.env) :: starEach [e2] X.env := by rfl) (hpl : (backTo pos (starEach [e2] X.env)).any (·.1) = false := by rfl) :
    DI X B (.Tuple elts kk tpos) (.Call (.Name "zip" pc) [e, e2] [] pos) (dwZip mr) := PI_imp (pi_zipM hg hm ha hs hpl) fun σ H R ⟨env, S, Qd, s, q, f⟩ => by
  refine ⟨env, S, _, s, q, fun ts S1 vs H1 x1 R1 r1 q1 => ?_⟩
  match ts, q1 with
  | [d, d2], q1 =>
    obtain ⟨v, v2, rfl, rv, rv2⟩ := r1.two
    obtain ⟨ds, es, h1, h2, q1⟩ := q1
    obtain ⟨a, k, xs, rfl, p⟩ := at_seq R1 rv h1
    obtain ⟨b, k2, ys, rfl, p2⟩ := at_seq R1 rv2 h2
    refine ⟨a, b, xs, ys, k, k2, rfl, p.sq, p2.sq, f _ _ S1 _ H1 x1 R1 (walks_zip p p2) ?_ q1⟩
    rw [zipD_len]
    exact Nat.le_trans (Nat.min_le_left _ _) p.len
section
variable {mr : MA} {env : DEnv} {S : Sto}
theorem z_zip {Q : List D → (Sto → Prop) → Sto → Prop} : dwZip mr env S Q = mr env S (zZip Q) := rfl
theorem zip_do {Q : List D → (Sto → Prop) → Sto → Prop} {d d2 : D} {ds es : List D} (h : seqOf S d = some ds) (h2 : seqOf S d2 = some es) (q : Q (zipD ds es) (fun S' => okOf S d S' ∧ okOf S d2 S') S) : zZip Q [d, d2] S := ⟨ds, es, h, h2, q⟩
theorem okOf_refl {d : D} : okOf S d S := by cases d <;> first | rfl | trivial
theorem zipD_map {α β : Type} (f : α → D) (g : β → D) (xs : List α) (ys : List β) : zipD (xs.map f) (ys.map g) = (xs.zip ys).map fun p => .tup [f p.1, g p.2] := by
  unfold zipD
  induction xs generalizing ys with
  | nil => rfl
  | cons x xs ih =>
    cases ys with
    | nil => rfl
    | cons y ys => simp only [List.map_cons, List.zipWith_cons_cons, List.zip_cons_cons, ih]
end
end DL
/-! Sets of tuples of ints: set(), add, len. -/
namespace DL
open PySem PySem.Spec PyProof.Rows L2
section
variable {X : Cx} {B : Bs} {o e : Expr} {mo : ME} {mr : MA} {pc pos apos : Pos} {k : Nat}
def rSet0T (P : Program) (w : World) : List V → Hp → VK → Prop := fun xs H Q => xs = [] ∧ ∀ p, H p = none → Q (.ref p) (upd H p (SetTO P w p []))
theorem cr_set0T : CallR X (.type "set") (rSet0T X.prog X.w) := by
  intro pins s σ H xs us Q I r h
  obtain ⟨rfl, q⟩ := h
  cases r
  refine setR_new fun _ => ?_
  have R := setTR_fresh (P := X.prog) (w := X.w) (h := s.heap.push { cls := .type "set", dict := none, data := .set #[] 0 (.fresh 0 0 (!X.w.params.followText "set-order")) }) (a := s.heap.objs.size) (Heap.get?_push_size _ rfl)
  exact ⟨.ref _, _, I.laid (t' := s.toks) (fun b u e => Heap.get?_push_of_some _ e) (Nat.le_refl _) (setTO_new R.t0), rfl, q _ (I.hok.fresh (Nat.le_refl _))⟩
/-- D.add(t) -/
def rSAddT (K : PySem.W.Frag) (P : Program) (w : World) : V → List V → Hp → VK → Prop := fun x xs H Q => ∃ (a b : Addr) (L : List (Addr × List Int)) (ns : List Int), x = V.ref a ∧ xs = [V.ref b] ∧ H a = some (SetTO P w a L) ∧ (∀ p ∈ L, SqT K H p.1 (p.2.map V.int)) ∧ SqT K H b (ns.map V.int) ∧ L.length + 1 < 64 ∧
  ∀ L', (ns ∈ L.map (·.2) → L' = L) → (ns ∉ L.map (·.2) → L'.Perm ((b, ns) :: L)) → Q .non (upd H a (SetTO P w a L'))
theorem mt_saddT (hu : X.A.units + 1 < cLine) : MtR X "set.add" (rSAddT X.K X.prog X.w) := by
  intro pins s σ H x xs v us Q I rx rxs h
  obtain ⟨a, b, L, ns, rfl, rfl, ha, hL, hb, few, q⟩ := h
  cases rx
  rw [Vals.ref1 rxs]
  have R0 : SetT0 X.prog X.w s.heap a L := (I.hok a _ ha).1
  obtain ⟨es, ep, t, R⟩ := R0.full fun p hp => I.isT (hL p hp)
  obtain ⟨ob, hob, hex, hd⟩ := R.ob
  have hx := I.isT hb
  have ty : s.TypeIs (.ref a) "set" := ⟨ob, hob, hex.1⟩
  refine wpAny_call_entry F.slot_set_add ty F.entry_set_add ?_ (F.args_set_add_2 _ _)
  unfold Builtin.«set.add» Builtin.Frozenset.oneOther Builtin.Frozenset.addrOf setAdd
  simp only [List.isEmpty_nil, bind_assoc]
  refine wpAny_bind (wpAny_pure ?_)
  try dsimp only
  refine wpAny_bind (wpAny_pure ?_)
  try dsimp only
  refine wpAny_bind (wpAny_holding (wpAny_bind (wpAny_pyHash_tuple (A := X.A.in1) hu hx ?_)))
  refine add_at (s := { s with toks := s.toks + (ns.length + 1) }) R hx hu few fun _ h' L' es' ep' t' sb R' same more => ?_
  have he : ∃ u, h'.get? a = some u := let ⟨u, hu, _⟩ := R'.ob; ⟨u, hu⟩
  exact wpAny_pure ⟨_, rfl, .non, _, I.write (e := a) (t' := s.toks + (ns.length + 1)) (by rw [ha]; trivial) (.inl rfl) (fun b u hb hu => (sb.2 b hb).trans hu) he (setTO_new R'.t0), rfl, q L' same more⟩
def tSAddT (K : PySem.W.Frag) (P : Program) (w : World) (to : TE) (t : TA) : TE := fun σ H Q => to σ H fun x H1 => (∃ a L, x = V.ref a ∧ H1 a = some (SetTO P w a L)) ∧ t σ H1 fun xs H2 => rSAddT K P w x xs H2 Q
theorem pe_saddT {to : TE} {t : TA} (hu : X.A.units + 1 < cLine) (ho : PE X o to) (ha : PA X [e] t)
    (hbase : attributeBase o "add" X.env (eval o X.env) = eval o X.env)
    (hfew : ((backTo pc (starEach [e] X.env)).all (fun x => !x.1) && (backToKw pc (keywordEach [] X.env)).all (fun x => x.1.isSome) && decide ([e].length + ([] : List Keyword).length + (if ([] : List Keyword).isEmpty then 0 else 1) < 30)) = true)
    (hline : (apos.endLine == pc.line) = true) (hs : starEach [e] X.env = (false, eval e X.env) :: starEach [] X.env) (hplain : (backTo pc (starEach [] X.env)).any (·.1) = false) :
    PE X (.Call (.Attribute o "add" apos) [e] [] pc) (tSAddT X.K X.prog X.w to t) := by
  refine ⟨fun pins s σ H Q I h => wpAny_Call_method_late hbase hfew hline rfl (thn (ho.run pins s σ H _ I h) fun v s1 ⟨x, H1, I1, r1, ⟨a, L, ex, hL⟩, q1⟩ => ?_)⟩
  subst ex
  cases r1
  obtain ⟨es, ep, tb, ⟨ob, hob, hex, hd⟩, _⟩ := SetT0.ex (I1.hok a _ hL).1
  refine ⟨"set", "set.add", F.plainAttrs_set, F.slot_set_add, F.type_set_add, ⟨ob, hob, hex.1⟩, fun u e => ⟨ob, by cases e; exact hob, hex.2.1⟩, ?_⟩
  have hA := ha.run pc pins s1 σ H1 _ I1 q1
  rw [hs] at hA ⊢
  refine Calls.callWith_builtin (by show (false || (backTo pc (starEach [] X.env)).any (·.1)) = false; rw [hplain] <;> rfl) (Calls.evalArgs_plain ?_)
  exact thn hA fun us s2 ⟨vs, H2, I2, r2, q2⟩ => mt_saddT hu pins s2 σ H2 (.ref a) vs (.ref a) us Q I2 rfl r2 q2
def rLenST (K : PySem.W.Frag) (P : Program) (w : World) : List V → Hp → VK → Prop := fun xs H Q => ∃ a L, xs = [V.ref a] ∧ H a = some (SetTO P w a L) ∧ (∀ p ∈ L, SqT K H p.1 (p.2.map V.int)) ∧ Q (.int L.length) H
theorem cr_lenST : CallR X (.builtin "len") (rLenST X.K X.prog X.w) := by
  intro pins s σ H xs us Q I r h
  obtain ⟨a, L, rfl, ha, hL, q⟩ := h
  rw [Vals.ref1 r]
  have R0 : SetT0 X.prog X.w s.heap a L := (I.hok a _ ha).1
  obtain ⟨es, ep, t, R⟩ := R0.full fun p hp => I.isT (hL p hp)
  obtain ⟨ob, hob, hex, hd⟩ := R.ob
  have sz := R.size
  have few := R.few
  refine call_len_set hob hex hd R.fits (by omega) ⟨.int L.length, H, I.tok _, ⟨_, by rw [sz]⟩, q⟩
/-! ### over trees -/
def addK (ns : List Int) (cs : List (List Int)) : List (List Int) := if ns ∈ cs then cs else cs ++ [ns]
abbrev PhiT := Addr → List (Addr × List Int) → Heap → Prop
def phiOf (P : Program) (w : World) : PhiT := fun a L h => SetT0 P w h a L
def dSet0 (Φ : PhiT) : ME := fun env S Q => ∀ p, S p = none → Q (.ref p) (put S p (.ts Φ []))
theorem de_set0 {Φ : PhiT} (hΦ : phiOf X.prog X.w = Φ) (hg : Gl X "set") (hm : X.mg "set" = none) (hv : bootBuiltins "set" = some (.type "set")) : DE X B (.Call (.Name "set" pc) [] [] pos) (dSet0 Φ) := PE_imp (pe_callTy0 cr_set0T hg hm hv) fun σ H Q ⟨env, S, Qd, s, q, f⟩ => by
  subst hΦ
  refine ⟨rfl, fun p n => ?_⟩
  have R : Rel (kz X B) S H := s.rel
  have x : Ext S H (put S p (.ts (phiOf X.prog X.w) [])) (upd H p (SetTO X.prog X.w p [])) := Ext.own n
  exact f _ _ _ _ x (R.put x ⟨[], upd_same, .nil, fun _ h => nomatch h⟩ (R.nz n)) (.ref p) (q p (R.fresh n))
def sAddP (Φ : PhiT) : DM := fun x ds S Q => ∃ a ns cs, x = .ref a ∧ ds = [.tup (ns.map .int)] ∧ S a = some (.ts Φ cs) ∧ cs.length + 1 < 64 ∧ Q .non (put S a (.ts Φ (addK ns cs)))
def dSAdd (Φ : PhiT) (m : ME) (t : MA) : ME := fun env S Q => m env S fun x S1 => (∃ a cs, x = .ref a ∧ S1 a = some (.ts Φ cs)) ∧ t env S1 fun ds S2 => sAddP Φ x ds S2 Q
theorem de_sadd {Φ : PhiT} (hΦ : phiOf X.prog X.w = Φ) (m : Amb X.A k) (ho : DE X B o mo) (ha : DA X B [e] mr)
    (hbase : attributeBase o "add" X.env (eval o X.env) = eval o X.env := by rfl)
    (hfew : ((backTo pc (starEach [e] X.env)).all (fun x => !x.1) && (backToKw pc (keywordEach [] X.env)).all (fun x => x.1.isSome) && decide ([e].length + ([] : List Keyword).length + (if ([] : List Keyword).isEmpty then 0 else 1) < 30)) = true := by rfl)
    (hline : (apos.endLine == pc.line) = true := by rfl) (hs : starEach [e] X.env = (false, eval e X.env) :: starEach [] X.env := by rfl) (hplain : (backTo pc (starEach [] X.env)).any (·.1) = false := by rfl) :
    DE X B (.Call (.Attribute o "add" apos) [e] [] pc) (dSAdd Φ mo mr) := PE_imp (pe_saddT (by have := m.room.un; omega) ho ha hbase hfew hline hs hplain) fun σ H Q ⟨env, S, Qd, s, q, f⟩ => by
  subst hΦ
  refine ⟨env, S, _, s, q, fun x S1 v H1 x1 R1 r1 q1 => ?_⟩
  obtain ⟨⟨a, cs, rfl, hS⟩, q1⟩ := q1
  cases r1
  refine ⟨let ⟨L, h, _⟩ := R1.get a _ hS; ⟨a, L, rfl, h⟩, env, S1, _, s.mono x1 R1, q1, fun ds S2 vs H2 x2 R2 r2 q2 => ?_⟩
  obtain ⟨a', ns, cs, ea, rfl, hS, few, q2⟩ := q2
  cases ea
  obtain ⟨u, rfl, ru⟩ := r2.single
  obtain ⟨L, h, pm, ht⟩ := R2.get a _ hS
  cases ru with
  | tup l z r =>
    have e := ints_read (bs := ns) r (intsOf_map ns)
    subst e
    have len : L.length = cs.length := by have := pm.length_eq; simpa using this
    refine ⟨a, _, L, ns, rfl, rfl, h, fun p hp => (ht p hp).sq, l.sq, by omega, fun L' same more => ?_⟩
    have x3 : Ext S2 H2 (put S2 a (.ts (phiOf X.prog X.w) (addK ns cs))) (upd H2 a (SetTO X.prog X.w a L')) := Ext.write hS
    have mem : ns ∈ L.map (·.2) ↔ ns ∈ cs := pm.mem_iff
    refine f _ _ _ _ ((x1.trans x2).trans x3) (R2.put x3 ?_ (R2.nz' hS)) .non q2
    unfold addK
    by_cases c : ns ∈ cs
    · rw [if_pos c]
      have := same (mem.mpr c)
      subst this
      exact ⟨_, upd_same, pm, fun p hp => x3.tup R2.fr (ht p hp)⟩
    · rw [if_neg c]
      have p2 := more fun z => c (mem.mp z)
      refine ⟨L', upd_same, ?_, fun p hp => ?_⟩
      · have p3 : (L'.map (·.2)).Perm (ns :: L.map (·.2)) := p2.map _
        exact (p3.trans (pm.cons ns)).trans (List.perm_append_singleton ns cs).symm
      · rcases List.mem_cons.mp (p2.mem_iff.mp hp) with rfl | hp
        · exact x3.tup R2.fr l
        · exact x3.tup R2.fr (ht p hp)
def lenSP (Φ : PhiT) : DN := fun ds S Q => ∃ a cs, ds = [.ref a] ∧ S a = some (.ts Φ cs) ∧ Q (.int cs.length) S
theorem cad_lenS {K : Kz} {P : Program} {w : World} : CallD K (rLenST K.K P w) (lenSP (phiOf P w)) := by
  intro S H ds vs Qd Q R r q f
  obtain ⟨a, cs, rfl, hS, q⟩ := q
  obtain ⟨v, rfl, rv⟩ := r.single
  cases rv
  obtain ⟨L, h, pm, ht⟩ := R.get a _ hS
  have len : L.length = cs.length := by have := pm.length_eq; simpa using this
  exact ⟨a, L, rfl, h, fun p hp => (ht p hp).sq, by rw [len]; exact f.here R (.int _) q⟩
end
section
variable {env : DEnv} {S : Sto} {mo : ME} {mr : MA} {Φ : PhiT}
def zSAdd (Φ : PhiT) (mr : MA) (env : DEnv) (Q : DQ) (x : D) (S1 : Sto) : Prop := (∃ a cs, x = .ref a ∧ S1 a = some (.ts Φ cs)) ∧ mr env S1 fun ds S2 => sAddP Φ x ds S2 Q
theorem z_set0 {Q : DQ} : dSet0 Φ env S Q = ∀ p, S p = none → Q (.ref p) (put S p (.ts Φ [])) := rfl
theorem z_sadd {Q : DQ} : dSAdd Φ mo mr env S Q = mo env S (zSAdd Φ mr env Q) := rfl
theorem sadd_do {Q : DQ} {a : Addr} {cs : List (List Int)} (h : S a = some (.ts Φ cs)) (q : mr env S fun ds S2 => sAddP Φ (.ref a) ds S2 Q) : zSAdd Φ mr env Q (.ref a) S := ⟨⟨a, cs, rfl, h⟩, q⟩
def kI (c : C3) : List Int := [c.1, c.2.1, c.2.2]
theorem sadd1_do {Q : DQ} {a : Addr} {c : C3} {cs : List (List Int)} (h : S a = some (.ts Φ cs)) (few : cs.length + 1 < 64) (q : Q .non (put S a (.ts Φ (addK (kI c) cs)))) : sAddP Φ (.ref a) [cD c] S Q := ⟨a, kI c, cs, rfl, rfl, h, few, q⟩
theorem lenS_do {Q : DQ} {a : Addr} {cs : List (List Int)} (h : S a = some (.ts Φ cs)) (q : Q (.int cs.length) S) : lenSP Φ [.ref a] S Q := ⟨a, cs, rfl, h, q⟩
theorem DSt.none {S S' : Sto} {a c : Addr} (x : DSt S a S') (n : S' c = none) : S c = none := by
  cases e : S c with
  | none => rfl
  | some o =>
    have ne : c ≠ a := x.deck.ne n
    rw [x.keep c o ne e] at n; cases n
/-- .. and something new is laid -/
theorem DSt.new {S S' : Sto} {a c : Addr} {o : O} (x : DSt S a S') (n : S' c = .none) : DSt S a (DL.put S' c o) := x.put (x.none n) (x.deck.ne n)
/-- .. and a list of one's own changes -/
theorem DSt.own {S S' : Sto} {a c : Addr} {o : O} (x : DSt S a S') (n : S c = .none) (ne : c ≠ a) : DSt S a (DL.put S' c o) := x.put n ne
theorem sort_seq {d : D} {cs : List C3} {S : Sto} {Q : DQ} (h : seqOf S d = some (cs.map cD)) (q : Q (.lst ((csort cs).map cD)) S) : sortP [d] S Q := by
  unfold sortP
  simp only [h]
  refine .inr ⟨cs.map cL, by rw [List.map_map]; rfl, fun n hn => ?_, ?_⟩
  · obtain ⟨c, _, rfl⟩ := List.mem_map.mp hn
    exact fun e => nomatch e
  · rw [tsort_cells, List.map_map]
    exact q
theorem csort_asc {cs : List C3} (nd : cs.Nodup) : Asc (csort cs) := by
  have s := csort_srtd cs
  have n : (csort cs).Nodup := (csort_perm cs).symm.nodup nd
  unfold Asc
  unfold SrtO.Srtd at s
  refine List.pairwise_iff_getElem.mpr fun i j hi hj hij => ?_
  have h1 := List.pairwise_iff_getElem.mp s i j hi hj hij
  have h2 := List.pairwise_iff_getElem.mp n i j hi hj hij
  cases e : cLt (csort cs)[i] (csort cs)[j] with
  | true => rfl
  | false => exact absurd (cLt_tri e h1) h2
theorem kI_inj {a b : C3} (h : kI a = kI b) : a = b := by
  obtain ⟨x, y, z⟩ := a
  obtain ⟨u, v, w⟩ := b
  unfold kI at h
  simp at h
  simp [h]
end
end DL
/-! Defs with one default, None. -/
namespace DL
open PySem PySem.Spec PyProof.Rows L2
section
variable {P : Program} {w : World} {K : PySem.W.Frag} {mg : Str → Option Value} {base : Heap} {x qual : Str} {params : Arguments} {body : List Stmt} {scope : Scope} {f : Addr} {fd : FuncData} {N ps : List Str}
theorem funD_mk {st : Stmt} {T : Addr} {oc ocT : Value} {od odT an : Option Addr} {osl oslT : Array (Option Value)} {itT : Array Value} {nT : Nat} {kV doc pm cdv ct : Value}
    (l : K.lookup f = some ⟨oc, od, .func (PySem.W.fnOf x qual (defArgs st) (defBody st) (defScope st) (.ref T) kV doc pm an cdv ct), osl⟩) (lT : K.lookup T = some ⟨ocT, odT, .seq itT nT, oslT⟩) (yT : itT = #[Value.none])
    (c : PySem.W.codeIn K cdv qual = true) (k : PySem.W.keepIn K (.ref f) = true) : FunD K x qual (defArgs st) (defBody st) (defScope st) [V.non] [] f (PySem.W.fnOf x qual (defArgs st) (defBody st) (defScope st) (.ref T) kV doc pm an cdv ct) :=
  ⟨⟨oc, od, .ref T, kV, doc, pm, an, cdv, ct, osl, rfl, l, c, .inr ⟨by simp, T, _, [Value.none], nT, rfl, lT, by rw [yT], .cons rfl .nil⟩, .inl rfl⟩, k⟩
theorem FunD.binds_one (F : FunD K x qual params body scope [V.non] [] f fd) (n : Nat) (hn : n + 1 = ps.length)
    (h : ∀ (T : Addr) (kV doc pm : Value) (an : Option Addr) (cdv ct : Value) (us its : List Value), us.length = n → its.length = 1 →
      ∃ k, bindArgs (PySem.W.fnOf x qual params body scope (.ref T) kV doc pm an cdv ct) ⟨us, []⟩ = seqItems? (.ref T) >>= k ∧ k (some its.toArray) = pure (ps.zip (us ++ its))) : Binds K fd ps [.none] := by
  obtain ⟨ds, r, b⟩ := L2.FunD.binds1 F n 0 (by simp) (by simpa using hn) fun T kV doc pm an cdv ct us its hl hi => by
    obtain ⟨k, e1, e2⟩ := h T kV doc pm an cdv ct us its hl hi
    exact ⟨k, e1, e2⟩
  cases r with
  | cons r t =>
    cases t
    cases r
    exact b
theorem FunD.binds_all (F : FunD K x qual params body scope [V.non] [] f fd)
    (h : ∀ (T : Addr) (kV doc pm : Value) (an : Option Addr) (cdv ct : Value) (us its : List Value), us.length = ps.length → its.length = 1 →
      ∃ k, bindArgs (PySem.W.fnOf x qual params body scope (.ref T) kV doc pm an cdv ct) ⟨us, []⟩ = seqItems? (.ref T) >>= k ∧ k (some its.toArray) = pure (ps.zip us)) : Binds K fd ps [] := by
  obtain ⟨ds, r, b⟩ := L2.FunD.binds1 (ps := ps) F ps.length 1 (by simp) (by simp) fun T kV doc pm an cdv ct us its hl hi => by
    obtain ⟨k, e1, e2⟩ := h T kV doc pm an cdv ct us its hl hi
    have e3 : us ++ its.drop 1 = us := by rw [List.drop_eq_nil_of_le (by rw [hi]; exact Nat.le_refl _), List.append_nil]
    exact ⟨k, e1, by rw [e3]; exact e2⟩
  cases r
  exact b
theorem vals_non : Vals [V.non] [Value.none] := .cons rfl .nil
/-- THE RULE: a def with defaults by its body -/
theorem dfn_ofD {st : Stmt} {dvs : List V} {kws : List (Str × V)} {k : Nat} {p : DSp} (F : FunD K x qual (defArgs st) (defBody st) (defScope st) dvs kws f fd) (SC : FnScope N ps (defScope st)) (len : ∀ ds S Q E, p ds S Q E → ds.length = ps.length)
    (hbody : ∀ (cdv : Value) (A : Around) (outer : List Env) (s : Shared) (B : Bs) (Ed : DX), Room k (A.deeper (envOfC qual (defScope st) s.heap.objs.size f cdv)) → A.guards = some [] →
      ∃ t, DSs (cxOf (L2.CX P w) P w K mg base N qual (defScope st) f cdv A outer s B.H (cX ⟨K, B.Z⟩ B.S B.H Ed)) B (defBody st) t ∧
        ∀ ds Q, p ds B.S Q Ed → t { nx := fun _ S' => lows Q .non S', rt := lows Q } (ds.map some ++ List.replicate (N.length - ps.length) none) B.S) : DFn P w K mg base (k + 1) f fd ps p := by
  obtain ⟨oc, od, dV, kV, doc, pm, an, cdv, ct, osl, e, lk, hcd, _, _⟩ := F.ex
  exact dfn_core e lk hcd SC len hbody
end
end DL
namespace DL
open PySem PySem.Spec PyProof.Rows L2
/-! ### pieces stand, whatever is laid -/
theorem objOf_sub {S S' : Sto} {d : D} {C : Addr} {ns : List Str} {ds : List D} (h : objOf S d = some (C, ns, ds)) (x : Sub S S') : objOf S' d = some (C, ns, ds) := by
  cases d with
  | ref a =>
    cases e : S a with
    | none => simp [objOf, e] at h
    | some o =>
      cases o with
      | obj C' ns' ds' =>
        simp [objOf, e] at h
        obtain ⟨rfl, rfl, rfl⟩ := h
        exact objOf_ref (x a _ e)
      | _ => simp [objOf, e] at h
  | obj C' ns' ds' => exact h
  | _ => simp [objOf] at h
theorem holds_sub {C : Addr} {S S' : Sto} {d : D} {ps : List Piece} (h : holdsP C S d ps) (x : Sub S S') : holdsP C S' d ps := by
  obtain ⟨y, h1, h2⟩ := h
  exact ⟨y, objOf_sub h1 x, seqOf_sub h2 x⟩
theorem holds_put {C p : Addr} {S : Sto} {o : O} {d : D} {ps : List Piece} (h : holdsP C S d ps) (n : S p = none) : holdsP C (put S p o) d ps := holds_sub h (sub_put Sub.refl n)
theorem holds_in {C : Addr} {S : Sto} {d : D} {ps : List Piece} {m : Str} (h : holdsP C S d ps) (n : m ∉ fPcs) : isInst C m S d := by
  obtain ⟨y, h1, _⟩ := h
  exact inst_of h1 n
/-! ### a set of what was met -/
structure Met (L : List C3) (cs : List (List Int)) : Prop where
  nd : cs.Nodup
  mem : ∀ c, kI c ∈ cs ↔ c ∈ L
  sub : ∀ k ∈ cs, ∃ c, k = kI c
  len : cs.length ≤ L.length
  all : cs.length = L.length ↔ L.Nodup
theorem Met.nil : Met [] [] := ⟨.nil, fun c => by simp, fun k h => (nomatch h), Nat.le_refl _, by simp⟩
theorem Met.add {L : List C3} {cs : List (List Int)} (m : Met L cs) (c : C3) : Met (L ++ [c]) (addK (kI c) cs) := by
  have ml := m.len
  unfold addK
  by_cases h : kI c ∈ cs
  · rw [if_pos h]
    have hc := (m.mem c).mp h
    refine ⟨m.nd, fun b => ?_, m.sub, by rw [List.length_append]; simp; omega, ?_⟩
    · rw [m.mem b, List.mem_append, List.mem_singleton]
      exact ⟨.inl, fun e => e.elim id fun e => by rw [e]; exact hc⟩
    · rw [List.length_append, List.length_singleton]
      refine ⟨fun e => by omega, fun n => ?_⟩
      exact absurd rfl ((List.nodup_append.mp n).2.2 c hc c (by simp))
  · rw [if_neg h]
    have hc : c ∉ L := fun z => h ((m.mem c).mpr z)
    refine ⟨?_, fun b => ?_, fun k hk => ?_, by simp; omega, ?_⟩
    · exact List.nodup_append.mpr ⟨m.nd, by simp, fun y hy z hz e => by rw [List.mem_singleton.mp hz] at e; exact h (e ▸ hy)⟩
    · rw [List.mem_append, List.mem_append, m.mem b, List.mem_singleton, List.mem_singleton]
      exact ⟨fun e => e.imp_right kI_inj, fun e => e.imp_right fun e => by rw [e]⟩
    · rcases List.mem_append.mp hk with hk | hk
      · exact m.sub k hk
      · exact ⟨c, List.mem_singleton.mp hk⟩
    · rw [List.length_append, List.length_append, List.length_singleton, List.length_singleton]
      have := m.all
      constructor
      · intro e
        exact List.nodup_append.mpr ⟨this.mp (by omega), by simp, fun y hy z hz e => by rw [List.mem_singleton.mp hz] at e; exact hc (e ▸ hy)⟩
      · intro n
        rw [this.mpr (List.nodup_append.mp n).1]
end DL
/-! Stretches on an axis, and cuts between them. -/
namespace DL
open PySem PySem.Spec PyProof.Rows L2
def loI : List Int → Int
  | [] => 0
  | x :: xs => xs.foldl min x
def hiI : List Int → Int
  | [] => 0
  | x :: xs => xs.foldl max x
theorem foldl_min (xs : List Int) (x : Int) : (xs.foldl min x = x ∨ xs.foldl min x ∈ xs) ∧ xs.foldl min x ≤ x ∧ ∀ y ∈ xs, xs.foldl min x ≤ y := by
  induction xs generalizing x with
  | nil => exact ⟨.inl rfl, Int.le_refl _, fun y h => (nomatch h)⟩
  | cons a xs ih =>
    obtain ⟨h1, h2, h3⟩ := ih (min x a)
    rw [List.foldl_cons]
    have hm : min x a = x ∨ min x a = a := by omega
    refine ⟨?_, by omega, fun y hy => ?_⟩
    · rcases h1 with h1 | h1
      · rcases hm with e | e
        · exact .inl (h1.trans e)
        · exact .inr (by rw [h1, e]; exact List.mem_cons_self)
      · exact .inr (List.mem_cons_of_mem _ h1)
    · rcases List.mem_cons.mp hy with rfl | hy
      · omega
      · exact h3 y hy
theorem foldl_max (xs : List Int) (x : Int) : (xs.foldl max x = x ∨ xs.foldl max x ∈ xs) ∧ x ≤ xs.foldl max x ∧ ∀ y ∈ xs, y ≤ xs.foldl max x := by
  induction xs generalizing x with
  | nil => exact ⟨.inl rfl, Int.le_refl _, fun y h => (nomatch h)⟩
  | cons a xs ih =>
    obtain ⟨h1, h2, h3⟩ := ih (max x a)
    rw [List.foldl_cons]
    have hm : max x a = x ∨ max x a = a := by omega
    refine ⟨?_, by omega, fun y hy => ?_⟩
    · rcases h1 with h1 | h1
      · rcases hm with e | e
        · exact .inl (h1.trans e)
        · exact .inr (by rw [h1, e]; exact List.mem_cons_self)
      · exact .inr (List.mem_cons_of_mem _ h1)
    · rcases List.mem_cons.mp hy with rfl | hy
      · omega
      · exact h3 y hy
theorem loI_mem {ns : List Int} (ne : ns ≠ []) : loI ns ∈ ns := by
  cases ns with
  | nil => exact absurd rfl ne
  | cons x xs =>
    rcases (foldl_min xs x).1 with h | h
    · show xs.foldl min x ∈ _; rw [h]; exact List.mem_cons_self
    · exact List.mem_cons_of_mem _ h
theorem hiI_mem {ns : List Int} (ne : ns ≠ []) : hiI ns ∈ ns := by
  cases ns with
  | nil => exact absurd rfl ne
  | cons x xs =>
    rcases (foldl_max xs x).1 with h | h
    · show xs.foldl max x ∈ _; rw [h]; exact List.mem_cons_self
    · exact List.mem_cons_of_mem _ h
theorem loI_le {ns : List Int} {x : Int} (h : x ∈ ns) : loI ns ≤ x := by
  cases ns with
  | nil => cases h
  | cons y xs =>
    rcases List.mem_cons.mp h with rfl | h
    · exact (foldl_min xs x).2.1
    · exact (foldl_min xs y).2.2 x h
theorem le_hiI {ns : List Int} {x : Int} (h : x ∈ ns) : x ≤ hiI ns := by
  cases ns with
  | nil => cases h
  | cons y xs =>
    rcases List.mem_cons.mp h with rfl | h
    · exact (foldl_max xs x).2.1
    · exact (foldl_max xs y).2.2 x h
theorem minL_do {ns : List Int} {S : Sto} {Q : DQ} (ne : ns ≠ []) (q : Q (.int (loI ns)) S) : minP [.lst (ns.map D.int)] S Q := by
  unfold minP
  simp only [lstOf_lst, Option.bind, intsOf_map]
  refine ⟨ne, fun m hm h => ?_⟩
  have h1 := h _ (loI_mem ne)
  have h2 := loI_le hm
  have e : m = loI ns := by omega
  rw [e]; exact q
theorem maxL_do {ns : List Int} {S : Sto} {Q : DQ} (ne : ns ≠ []) (q : Q (.int (hiI ns)) S) : maxP [.lst (ns.map D.int)] S Q := by
  unfold maxP
  simp only [lstOf_lst, Option.bind, intsOf_map]
  refine ⟨ne, fun m hm h => ?_⟩
  have h1 := h _ (hiI_mem ne)
  have h2 := le_hiI hm
  have e : m = hiI ns := by omega
  rw [e]; exact q
/-! ### stretches -/
def axs (cs : List C3) (k : Int) : List Int := cs.map fun c => cAt c k
def str1 (k : Int) (z : Piece × C3) : P2 := (loI (axs z.1.2 k) + cAt z.2 k, hiI (axs z.1.2 k) + 1 + cAt z.2 k)
def strsA (k : Int) (ps : List Piece) (os : List C3) : List P2 := (ps.zip os).map (str1 k)
theorem str1_lt {k : Int} {z : Piece × C3} (ne : z.1.2 ≠ []) : (str1 k z).1 < (str1 k z).2 := by
  have h : axs z.1.2 k ≠ [] := fun e => ne (List.map_eq_nil_iff.mp e)
  have h1 := loI_mem h
  have h2 := le_hiI h1
  show loI _ + _ < hiI _ + 1 + _
  omega
def isCut (ss : List P2) (c : Int) : Bool := (ss.all fun s => decide (s.2 ≤ c) || decide (c ≤ s.1)) && decide (c ≤ hiI (ss.map (·.1)))
def cutOf (ss : List P2) : Option Int := (isort (ss.map (·.2))).find? (isCut ss)
structure Cut (ss : List P2) (c : Int) : Prop where
  hi : ∃ s ∈ ss, s.2 = c
  apart : ∀ s ∈ ss, s.2 ≤ c ∨ c ≤ s.1
  above : ∃ s ∈ ss, c ≤ s.1
theorem cut_iff {ss : List P2} {c : Int} (h : ∃ s ∈ ss, s.2 = c) : isCut ss c = true ↔ Cut ss c := by
  have ne : ss.map (·.1) ≠ [] := fun e => by
    obtain ⟨s, hs, _⟩ := h
    rw [List.map_eq_nil_iff.mp e] at hs; cases hs
  unfold isCut
  rw [Bool.and_eq_true, List.all_eq_true, decide_eq_true_eq]
  constructor
  · rintro ⟨h1, h2⟩
    refine ⟨h, fun s hs => by simpa using h1 s hs, ?_⟩
    obtain ⟨s, hs, e⟩ := List.mem_map.mp (hiI_mem ne)
    exact ⟨s, hs, by rw [e]; exact h2⟩
  · rintro ⟨_, h1, s, hs, h2⟩
    refine ⟨fun s hs => by simpa using h1 s hs, ?_⟩
    have := le_hiI (List.mem_map.mpr ⟨s, hs, rfl⟩ : s.1 ∈ ss.map (·.1))
    omega
/-- the least cut, or none -/
def Least (ss : List P2) : Option Int → Prop
  | none => ∀ c, ¬ Cut ss c
  | some c => Cut ss c ∧ ∀ c', Cut ss c' → c ≤ c'
theorem find_least {p : Int → Bool} : ∀ {l : List Int}, l.Pairwise (· ≤ ·) → match l.find? p with
    | none => ∀ c ∈ l, p c = false
    | some c => c ∈ l ∧ p c = true ∧ ∀ c' ∈ l, p c' = true → c ≤ c'
  | [], _ => fun c h => (nomatch h)
  | x :: xs, h => by
    obtain ⟨h1, h2⟩ := List.pairwise_cons.mp h
    have ih := find_least (p := p) h2
    cases hp : p x with
    | true =>
      rw [List.find?_cons_of_pos hp]
      refine ⟨List.mem_cons_self, hp, fun c hc _ => ?_⟩
      rcases List.mem_cons.mp hc with rfl | hc
      · exact Int.le_refl _
      · exact h1 c hc
    | false =>
      rw [List.find?_cons_of_neg (by rw [hp]; exact Bool.false_ne_true)]
      cases e : xs.find? p with
      | none =>
        rw [e] at ih
        intro c hc
        rcases List.mem_cons.mp hc with rfl | hc
        · exact hp
        · exact ih c hc
      | some c =>
        rw [e] at ih
        refine ⟨List.mem_cons_of_mem _ ih.1, ih.2.1, fun c' hc hp' => ?_⟩
        rcases List.mem_cons.mp hc with rfl | hc
        · rw [hp] at hp'; cases hp'
        · exact ih.2.2 c' hc hp'
theorem cutOf_least (ss : List P2) : Least ss (cutOf ss) := by
  have h := find_least (p := isCut ss) (isort_srtd (ss.map (·.2)))
  have hm : ∀ c, c ∈ isort (ss.map (·.2)) ↔ ∃ s ∈ ss, s.2 = c := fun c => by rw [(isort_perm _).mem_iff, List.mem_map]
  unfold cutOf
  cases e : (isort (ss.map (·.2))).find? (isCut ss) with
  | none =>
    rw [e] at h
    intro c hc
    have := h c ((hm c).mpr hc.hi)
    rw [(cut_iff hc.hi).mpr hc] at this
    cases this
  | some c =>
    rw [e] at h
    have hi := (hm c).mp h.1
    exact ⟨(cut_iff hi).mp h.2.1, fun c' hc' => h.2.2 c' ((hm c').mpr hc'.hi) ((cut_iff hc'.hi).mpr hc')⟩
theorem Least.uniq {ss : List P2} {x y : Option Int} (hx : Least ss x) (hy : Least ss y) : x = y := by
  cases x with
  | none =>
    cases y with
    | none => rfl
    | some d => exact absurd hy.1 (hx d)
  | some c =>
    cases y with
    | none => exact absurd hx.1 (hy c)
    | some d =>
      have h1 := hx.2 d hy.1
      have h2 := hy.2 c hx.1
      have : c = d := by omega
      rw [this]
/-- the law's sweep -/
def sweep : Int → List P2 → Option Int
  | _, [] => none
  | e, s :: ss => if e ≤ s.1 then some e else sweep (max e s.2) ss
theorem Cut.perm {ss tt : List P2} (p : ss.Perm tt) {c : Int} (h : Cut ss c) : Cut tt c := by
  obtain ⟨⟨s, hs, e⟩, h2, t, ht, h3⟩ := h
  exact ⟨⟨s, p.mem_iff.mp hs, e⟩, fun u hu => h2 u (p.mem_iff.mpr hu), t, p.mem_iff.mp ht, h3⟩
theorem sweep_least {all : List P2} (pos : ∀ s ∈ all, s.1 < s.2) (srt : all.Pairwise fun a b => a.1 ≤ b.1) : ∀ (rest done : List P2) (e : Int), done ++ rest = all → (∃ s ∈ done, s.2 = e) → (∀ s ∈ done, s.2 ≤ e) → (∀ c, Cut all c → e ≤ c) → Least all (sweep e rest)
  | [], done, e, ed, _, h2, h3 => by
    intro c hc
    rw [List.append_nil] at ed
    subst ed
    obtain ⟨⟨s, hs, e1⟩, _, t, ht, h⟩ := hc
    have := pos t ht
    have := h2 t ht
    have := h3 c ⟨⟨s, hs, e1⟩, by assumption, t, ht, h⟩
    omega
  | s :: rest, done, e, ed, h1, h2, h3 => by
    unfold sweep
    have hs : s ∈ all := by rw [← ed]; simp
    by_cases l : e ≤ s.1
    · rw [if_pos l]
      refine ⟨⟨?_, fun t ht => ?_, s, hs, l⟩, h3⟩
      · obtain ⟨t, ht, e1⟩ := h1
        exact ⟨t, by rw [← ed]; exact List.mem_append_left _ ht, e1⟩
      · rw [← ed] at ht srt
        rcases List.mem_append.mp ht with ht | ht
        · exact .inl (h2 t ht)
        · obtain ⟨_, h5, _⟩ := List.pairwise_append.mp srt
          rcases List.mem_cons.mp ht with rfl | ht
          · exact .inr l
          · exact .inr (Int.le_trans l ((List.pairwise_cons.mp h5).1 t ht))
    · rw [if_neg l]
      refine sweep_least pos srt rest (done ++ [s]) (max e s.2) (by rw [List.append_assoc]; exact ed) ?_ (fun t ht => ?_) fun c hc => ?_
      · obtain ⟨t, ht, e1⟩ := h1
        by_cases m : s.2 ≤ e
        · exact ⟨t, List.mem_append_left _ ht, by omega⟩
        · exact ⟨s, by simp, by omega⟩
      · rcases List.mem_append.mp ht with ht | ht
        · have := h2 t ht; omega
        · rw [List.mem_singleton.mp ht]; omega
      · have := h3 c hc
        rcases hc.apart s hs with h | h <;> omega
theorem sweep_cut {ss : List P2} {s : P2} {l : List P2} (p : (s :: l).Perm ss) (pos : ∀ s ∈ ss, s.1 < s.2) (srt : (s :: l).Pairwise fun a b => a.1 ≤ b.1) : sweep s.2 l = cutOf ss := by
  have h := sweep_least (all := s :: l) (fun t ht => pos t (p.mem_iff.mp ht)) srt l [s] s.2 rfl ⟨s, by simp, rfl⟩ (fun t ht => by rw [List.mem_singleton.mp ht]; exact Int.le_refl _) fun c hc => by
    obtain ⟨⟨t, ht, e⟩, h2, _⟩ := hc
    have h3 : s.1 ≤ t.1 := by
      rcases List.mem_cons.mp ht with rfl | ht
      · exact Int.le_refl _
      · exact (List.pairwise_cons.mp srt).1 t ht
    have h4 := pos t (p.mem_iff.mp ht)
    rcases h2 s List.mem_cons_self with h | h <;> omega
  refine h.uniq ?_
  have g := cutOf_least ss
  cases e : cutOf ss with
  | none => rw [e] at g; exact fun c hc => g c (hc.perm p)
  | some c => rw [e] at g; exact ⟨g.1.perm p.symm, fun c' hc' => g.2 c' (hc'.perm p)⟩
/-! ### sorting pairs -/
def pL (p : P2) : List Int := [p.1, p.2]
def unL : List Int → P2
  | [a, b] => (a, b)
  | _ => (0, 0)
theorem pD_tup (p : P2) : pD p = tupI (pL p) := rfl
theorem sortQ_pairs {ss : List P2} {R : List D → Prop} (q : ∀ l : List P2, l.Perm ss → l.Pairwise (fun a b => a.1 ≤ b.1) → R (l.map pD)) : sortQ (ss.map pD) R := by
  refine .inr ⟨ss.map pL, by rw [List.map_map]; rfl, fun n hn => ?_, ?_⟩
  · obtain ⟨p, _, rfl⟩ := List.mem_map.mp hn
    exact fun e => nomatch e
  have pm := tsort_perm (ss.map pL)
  have sr := tsort_srtd (ss.map pL)
  have form : ∀ n ∈ tsort (ss.map pL), pL (unL n) = n := fun n hn => by
    obtain ⟨p, _, rfl⟩ := List.mem_map.mp (pm.mem_iff.mp hn)
    rfl
  have e1 : ((tsort (ss.map pL)).map unL).map pD = (tsort (ss.map pL)).map tupI := by
    rw [List.map_map]
    refine List.map_congr_left fun n hn => ?_
    show pD (unL n) = tupI n
    rw [pD_tup, form n hn]
  rw [← e1]
  refine q _ ?_ ?_
  · have := pm.map unL
    rw [List.map_map] at this
    have e2 : (unL ∘ pL) = id := rfl
    rw [e2, List.map_id] at this
    exact this
  · rw [List.pairwise_map]
    refine List.Pairwise.imp_of_mem (fun {a b} ha hb h => ?_) sr
    have fa := form a ha
    have fb := form b hb
    rw [← fa, ← fb] at h
    unfold pL at h
    simp only [HT.lexLt_cons] at h
    by_cases e : (unL a).1 ≤ (unL b).1
    · exact e
    · exfalso
      revert h
      split <;> simp <;> omega
theorem sort_pairs {d : D} {ss : List P2} {S : Sto} {Q : DQ} (h : seqOf S d = some (ss.map pD)) (q : ∀ l : List P2, l.Perm ss → l.Pairwise (fun a b => a.1 ≤ b.1) → Q (.lst (l.map pD)) S) : sortP [d] S Q := by
  unfold sortP
  simp only [h]
  exact sortQ_pairs q
theorem sort_pairsO {d : D} {ss : List P2} {S : Sto} {Q : DQ} (h : seqOf S d = some (ss.map pD)) (q : ∀ l : List P2, l.Perm ss → l.Pairwise (fun a b => a.1 ≤ b.1) → ∀ p, S p = none → Q (.ref p) (put S p (.lst (l.map pD)))) : sortOP [d] S Q := by
  unfold sortOP
  simp only [h]
  exact sortQ_pairs q
end DL
namespace DL
open PySem PySem.Spec PyProof.Rows L2
theorem tup_seq {d : D} {ds : List D} {S : Sto} {Q : DQ} (h : seqOf S d = some ds) (q : Q (.tup ds) S) : tupleP [d] S Q := by
  unfold tupleP
  cases d with
  | str x => simp [seqOf, lstOf] at h
  | _ => simp only [h]; exact q
end DL
/-! Dicts whose keys are cells: {}, d[c] = v. -/
namespace DL
open PySem PySem.Spec PyProof.Rows L2
section
variable {X : Cx} {B : Bs} {o i e : Expr} {pos pos' : Pos} {mo mi me : ME} {k : Nat}
def dDict0 : ME := fun env S Q => ∀ p, S p = none → Q (.ref p) (put S p (.dT [] []))
theorem de_dict0 : DE X B (.Dict [] [] pos) dDict0 := PE_imp pe_dnewT fun σ H Q ⟨env, S, Qd, s, q, f⟩ p n => f.ownT (ks := []) (xs := []) (vs := []) s.rel n rfl .nil q
/-- d[c] = v, of a new key -/
def zSetT3 (D0 : DEnds) (env : DEnv) (v x y : D) (S : Sto) : Prop := ∃ a c ks xs, x = .ref a ∧ y = cD c ∧ S a = some (.dT ks xs) ∧ ks.length < sizeLine ∧ hasK (kC c) ks = false ∧ D0.nx env (put S a (.dT (ks ++ [kC c]) (xs ++ [v])))
def zSetT2 (mi : ME) (D0 : DEnds) (env : DEnv) (v x : D) (S : Sto) : Prop := mi env S (zSetT3 D0 env v x)
def zSetT1 (mo mi : ME) (D0 : DEnds) (env : DEnv) (v : D) (S : Sto) : Prop := mo env S (zSetT2 mi D0 env v)
def dSetT (mo mi me : ME) : MS := fun D0 env S => me env S (zSetT1 mo mi D0 env)
theorem ds_setT (nc : noCell X.K = true) (m : Amb X.A k) (ho : DE X B o mo) (hi : DE X B i mi) (hv : DE X B e me) (hs : swapsWith e (some (.Subscript o i pos')) pos.line X.env = pure false := by rfl) :
    DS X B (.Assign [.Subscript o i pos'] e pos) (dSetT mo mi me) := PS_imp (ps_dput (by have := m.u64; omega) ho hi hv hs) fun D0 σ H ⟨env, S, Dd, s, q, f⟩ => by
  refine ⟨env, S, _, s, q, fun v S1 w H1 x1 R1 r1 q1 => ?_⟩
  refine ⟨env, S1, _, s.mono x1 R1, q1, fun x S2 w2 H2 x2 R2 r2 q2 => ?_⟩
  refine ⟨env, S2, _, (s.mono x1 R1).mono x2 R2, q2, fun y S3 w3 H3 x3 R3 r3 q3 => ?_⟩
  obtain ⟨a, c, ks, xs, rfl, rfl, hS, hl, hn, q3⟩ := q3
  cases r2
  obtain ⟨b, rfl, hb⟩ := cell_made nc r3
  obtain ⟨vs, hv, hlen, rv⟩ := R3.get a _ hS
  have rw1 : Rep (kz X B) S3 H3 v w := Rep.mono R1 (x2.trans x3) _ _ r1
  have new : putK (ks.zip vs) (kC c) w = (ks ++ [kC c]).zip (vs ++ [w]) := by
    rw [List.zip_append hlen]
    refine putK_new fun p hp e => ?_
    have : kC c ∈ ks := e ▸ (List.of_mem_zip hp).1
    unfold hasK at hn
    rw [List.any_eq_false] at hn
    exact hn _ this (decide_eq_true rfl)
  obtain ⟨x4, R4⟩ := own_setT (ks := ks ++ [kC c]) (xs := xs ++ [v]) (vs := vs ++ [w]) R3 hS (by simp [hlen]) (rv.append (.cons rw1 .nil))
  refine ⟨a, _, rfl, .inr ⟨_, kC c, b, hv, rfl, hb, by rw [List.length_zip]; omega, by rw [new]⟩, ?_⟩
  exact f.nx env _ σ _ (((x1.trans x2).trans x3).trans x4) ((((s.mono x1 R1).mono x2 R2).mono x3 R3).mono x4 R4) q3
end
section
variable {env : DEnv} {S : Sto} {mo mi me : ME} {D0 : DEnds} {v x : D}
theorem z_dict0 {Q : DQ} : dDict0 env S Q = ∀ p, S p = none → Q (.ref p) (put S p (.dT [] [])) := rfl
theorem z_setT : dSetT mo mi me D0 env S = me env S (zSetT1 mo mi D0 env) := rfl
theorem z_setT1 : zSetT1 mo mi D0 env v S = mo env S (zSetT2 mi D0 env v) := rfl
theorem z_setT2 : zSetT2 mi D0 env v x S = mi env S (zSetT3 D0 env v x) := rfl
theorem setT_do {a : Addr} {c : C3} {cs : List C3} {xs : List D} (h : S a = some (.dT (cs.map kC) xs)) (hl : cs.length < 16777216) (hn : c ∉ cs) (q : D0.nx env (put S a (.dT ((cs ++ [c]).map kC) (xs ++ [v])))) : zSetT3 D0 env v (.ref a) (cD c) S :=
  ⟨a, c, _, xs, rfl, rfl, h, by rw [List.length_map, sizeLine_eq]; exact hl, by rw [hasK_cells]; exact decide_eq_false hn, by rw [List.map_append] at q; exact q⟩
end
end DL
namespace DL
open PySem PySem.Spec PyProof.Rows L2
theorem len_seq {d : D} {ds : List D} {S : Sto} {Q : DQ} (h : seqOf S d = some ds) (q : Q (.int ds.length) S) : lenP [d] S Q := by
  cases d with
  | ref b =>
    unfold lenP
    simp only [h]
    exact q
  | lst xs => cases h; exact q
  | tup xs => cases h; exact q
  | _ => simp [seqOf, lstOf] at h
end DL
/-! Lists without doubles, two by two. -/
namespace DL
open PySem PySem.Spec PyProof.Rows L2
theorem flat_nd {α β : Type} {f : α → List β} {l : List α} (h : ∀ x ∈ l, (f x).Nodup) : (l.flatMap f).Nodup ↔ l.Pairwise fun x y => ∀ c ∈ f x, c ∉ f y := by
  induction l with
  | nil => simp
  | cons x l ih =>
    rw [List.flatMap_cons, List.nodup_append, List.pairwise_cons, ih fun y hy => h y (List.mem_cons_of_mem _ hy)]
    constructor
    · rintro ⟨_, h2, h3⟩
      exact ⟨fun y hy c hc hc2 => h3 c hc c (List.mem_flatMap.mpr ⟨y, hy, hc2⟩) rfl, h2⟩
    · rintro ⟨h1, h2⟩
      refine ⟨h x List.mem_cons_self, h2, fun a ha b hb e => ?_⟩
      obtain ⟨y, hy, hb⟩ := List.mem_flatMap.mp hb
      subst e
      exact h1 y hy a ha hb
theorem addC_inj {o a b : C3} (h : addC o a = addC o b) : a = b := by
  obtain ⟨x, y, z⟩ := a
  obtain ⟨u, v, w⟩ := b
  unfold addC at h
  simp at h
  simp
  omega
theorem addC_nd {o : C3} {cs : List C3} (h : cs.Nodup) : (cs.map (addC o)).Nodup := List.pairwise_map.mpr (h.imp fun {a b} hn e => hn (addC_inj e))
end DL
/-! l[i] += n of an owned list. -/
namespace DL
open PySem PySem.Spec PyProof.Rows L2
section
variable {X : Cx} {B : Bs} {o i e : Expr} {pos tpos : Pos} {mo mi me : ME} {op : Operator} {f : Int → Int → Int}
def rGetN : V → V → Hp → VK → Prop := fun x y H Q => ∃ p xs k v, x = .ref p ∧ y = .int k ∧ H p = some (.lst xs) ∧ 0 ≤ k ∧ xs[k.toNat]? = some v ∧ Q v H
theorem get_own : PGet X rGetN := by
  intro pins s σ H x y v u Q I rx ry h
  obtain ⟨p, xs, k, z, rfl, rfl, hp, k0, hz, q⟩ := h
  cases rx
  obtain ⟨t, rfl⟩ := ry
  obtain ⟨its, r, pl, hl⟩ := I.list (.inl (.inl hp))
  obtain ⟨w, ew, rw'⟩ := r.get hz
  have hn := line63
  have hk : k.toNat < its.length := (List.getElem?_eq_some_iff.mp ew).1
  have hL := r.length
  exact wpAny_getItem_list pl.isList k0 (by omega) (by simpa using ew) ⟨z, H, I, rw', q⟩
def zAugS3 (D0 : DEnds) (env : DEnv) (f : Int → Int → Int) (a : Addr) (i : Int) (n : Int) (z : D) (S : Sto) : Prop := ∃ ds m, z = .int m ∧ S a = some (.lst ds) ∧ i.toNat < ds.length ∧ D0.nx env (put S a (.lst (ds.set i.toNat (.int (f n m)))))
def zAugS2 (me : ME) (D0 : DEnds) (env : DEnv) (f : Int → Int → Int) (x y : D) (S : Sto) : Prop := ∃ a ds i n, x = .ref a ∧ y = .int i ∧ S a = some (.lst ds) ∧ 0 ≤ i ∧ ds[i.toNat]? = some (.int n) ∧ me env S (zAugS3 D0 env f a i n)
def zAugS1 (mi me : ME) (D0 : DEnds) (env : DEnv) (f : Int → Int → Int) (x : D) (S : Sto) : Prop := mi env S (zAugS2 me D0 env f x)
def dAugS (mo mi me : ME) (f : Int → Int → Int) : MS := fun D0 env S => mo env S (zAugS1 mi me D0 env f)
theorem ds_augS (hop : PIp X op (ipI f)) (ho : DE X B o mo) (hi : DE X B i mi) (he : DE X B e me)
    (ha : ∀ ov iv new, augStore i ov iv new = (do holding [new, ov, iv] (setItem ov iv new); release [new, ov, iv] []; pure .next) := by intros; rfl) :
    DS X B (.AugAssign (.Subscript o i tpos) op e pos) (dAugS mo mi me f) := PS_imp (ps_augS ho hi get_own he hop set_list ha) fun D0 σ H ⟨env, S, Dd, s, q, fi⟩ => by
  refine ⟨env, S, _, s, q, fun x S1 xv H1 x1 R1 r1 q1 => ?_⟩
  refine ⟨env, S1, _, s.mono x1 R1, q1, fun y S2 yv H2 x2 R2 r2 q2 => ?_⟩
  obtain ⟨a, ds, k, n, rfl, rfl, hS, k0, hk, q2⟩ := q2
  cases r1
  cases r2
  obtain ⟨vs, hv, z, rr⟩ := R2.get a _ hS
  obtain ⟨v, hv2, rv⟩ := rr.get hk
  cases rv
  refine ⟨a, vs, k, _, rfl, rfl, hv, k0, hv2, ?_⟩
  refine ⟨env, S2, _, (s.mono x1 R1).mono x2 R2, q2, fun w S3 wv H3 x3 R3 r3 q3 => ?_⟩
  obtain ⟨ds3, m, rfl, hS3, hl, q3⟩ := q3
  cases r3
  obtain ⟨us, hu, z3, rr3⟩ := R3.get a _ hS3
  refine ⟨n, m, rfl, rfl, ?_⟩
  obtain ⟨x4, R4⟩ := own_set (vs := us.set k.toNat (.int (f n m))) R3 hS3 (by rw [List.length_set]; exact z3) (rr3.set (.int (f n m)) k.toNat)
  have hj : ixN us.length k = some k.toNat := ixN_nat k0 (by rw [← rr3.length]; omega)
  refine ⟨a, us, k, k.toNat, rfl, rfl, hu, hj, ?_⟩
  exact fi.nx env _ σ _ (((x1.trans x2).trans x3).trans x4) ((((s.mono x1 R1).mono x2 R2).mono x3 R3).mono x4 R4) q3
end
section
variable {env : DEnv} {S : Sto} {mo mi me : ME} {D0 : DEnds} {x : D} {f : Int → Int → Int}
theorem z_augS : dAugS mo mi me f D0 env S = mo env S (zAugS1 mi me D0 env f) := rfl
theorem z_augS1 : zAugS1 mi me D0 env f x S = mi env S (zAugS2 me D0 env f x) := rfl
theorem augS_do {a : Addr} {ds : List D} {i n : Int} (h : S a = some (.lst ds)) (h0 : 0 ≤ i) (hi : ds[i.toNat]? = some (.int n)) (q : me env S (zAugS3 D0 env f a i n)) : zAugS2 me D0 env f (.ref a) (.int i) S := ⟨a, ds, i, n, rfl, rfl, h, h0, hi, q⟩
theorem augS2_do {a : Addr} {ds : List D} {i n m : Int} (h : S a = some (.lst ds)) (hi : i.toNat < ds.length) (q : D0.nx env (put S a (.lst (ds.set i.toNat (.int (f n m)))))) : zAugS3 D0 env f a i n (.int m) S := ⟨ds, m, rfl, h, hi, q⟩
end
end DL
/-! Groups by indexes, names, pushes. -/
namespace DL
open PySem PySem.Spec PyProof.Rows L2
def gD (g : List Nat) : D := .tup (g.map fun k : Nat => D.int k)
def okNext (g : List Nat) (k : Nat) : Bool := g.isEmpty || decide (g.getLast?.getD 0 < k)
def nextLay (n : Nat) (l : List (List Nat)) : List (List Nat) := l.flatMap fun g => ((List.range' 1 (n - 1)).filter (okNext g)).map fun k => g ++ [k]
def layAt (n : Nat) : Nat → List (List Nat)
  | 0 => [[]]
  | t + 1 => nextLay n (layAt n t)
def fndAt (n : Nat) : Nat → List (List Nat)
  | 0 => []
  | t + 1 => fndAt n t ++ layAt n (t + 1)
def idxG (n : Nat) : List (List Nat) := fndAt n (n - 1)
theorem lay_bd : ∀ n, n < 7 → ∀ t, t < 7 → (layAt n t).length ≤ 10 ∧ (fndAt n t).length ≤ 70 ∧ ∀ g ∈ layAt n t, g.length ≤ 6 ∧ ∀ k ∈ g, k ≤ 6 := by decide +kernel
def nmAt (ts : List Str) (k : Nat) : Str := ts[k]?.getD (⟨#[]⟩ : Str)
def nmsD (ts : List Str) (g : List Nat) : D := .tup (g.map fun k => .str (nmAt ts k))
theorem nmAt_get {ts : List Str} {k : Nat} (h : k < ts.length) : ts[k]? = some (nmAt ts k) := by
  unfold nmAt
  rw [List.getElem?_eq_getElem h]
  rfl
theorem idx_bd : ∀ n, n < 7 → ∀ g ∈ idxG n, g.length < 7 ∧ ∀ k ∈ g, 0 < k ∧ k < n := by decide +kernel
theorem idx_self : ∀ n, n < 7 → ∀ g ∈ idxG n, (List.range n).filter (fun k => decide (k ∈ g)) = g ∧ g.Nodup := by decide +kernel
theorem idx_len : ∀ n, n < 7 → (idxG n).length ≤ 40 := by decide +kernel
/-- n edges along an axis -/
def shAx (ax n : Int) (c : C3) : C3 := (c.1 + (if (0 : Int) = ax then n else 0), c.2.1 + (if (1 : Int) = ax then n else 0), c.2.2 + (if (2 : Int) = ax then n else 0))
/-- .. of the pieces of a group -/
def behL (g : List Nat) (ax n : Int) (os : List C3) : List C3 := os.mapIdx fun k c => if k ∈ g then shAx ax n c else c
theorem behL_len {g : List Nat} {ax n : Int} {os : List C3} : (behL g ax n os).length = os.length := List.length_mapIdx
theorem behL_get {g : List Nat} {ax n : Int} {os : List C3} {k : Nat} : (behL g ax n os)[k]? = os[k]?.map fun c => if k ∈ g then shAx ax n c else c := List.getElem?_mapIdx
theorem shAx_back {ax n : Int} {c : C3} : shAx ax (-n) (shAx ax n c) = c := by
  obtain ⟨x, y, z⟩ := c
  unfold shAx
  refine Prod.ext ?_ (Prod.ext ?_ ?_) <;> dsimp only <;> split <;> omega
theorem behL_back {g : List Nat} {ax n : Int} {os : List C3} : behL g ax (-n) (behL g ax n os) = os := by
  refine List.ext_getElem? fun k => ?_
  rw [behL_get, behL_get]
  cases os[k]? with
  | none => rfl
  | some c =>
    by_cases h : k ∈ g
    · simp only [Option.map, if_pos h, shAx_back]
    · simp only [Option.map, if_neg h]
theorem behL_nil {ax n : Int} {os : List C3} : behL [] ax n os = os := by
  refine List.ext_getElem? fun k => ?_
  rw [behL_get]
  cases os[k]? <;> simp
theorem behL_step {g : List Nat} {ax n : Int} {os : List C3} {k : Nat} {c : C3} (hk : k ∉ g) (h : os[k]? = some c) : behL (g ++ [k]) ax n os = (behL g ax n os).set k (shAx ax n c) := by
  refine List.ext_getElem? fun i => ?_
  rw [behL_get, List.getElem?_set, behL_len]
  by_cases e : k = i
  · subst e
    have kl := (List.getElem?_eq_some_iff.mp h).1
    rw [if_pos rfl, if_pos kl, h]
    simp
  · rw [if_neg e, behL_get]
    have : i ∈ g ++ [k] ↔ i ∈ g := by
      rw [List.mem_append, List.mem_singleton]
      exact ⟨fun h => h.elim id fun h => absurd h.symm e, .inl⟩
    simp only [this]
theorem shAx_bd {ax n M N : Int} {c : C3} (hc : ∀ k, -M ≤ cAt c k ∧ cAt c k ≤ M) (hn : -N ≤ n ∧ n ≤ N) (k : Int) : -(M + N) ≤ cAt (shAx ax n c) k ∧ cAt (shAx ax n c) k ≤ M + N := by
  have h0 := hc 0
  have h1 := hc 1
  have h2 := hc 2
  obtain ⟨x, y, z⟩ := c
  simp only [cAt] at h0 h1 h2
  simp at h0 h1 h2
  unfold shAx
  refine cAt_all (P := fun z => -(M + N) ≤ z ∧ z ≤ M + N) ?_ ?_ ?_ k <;> dsimp only <;> split <;> omega
theorem behL_bd {g : List Nat} {ax n M N : Int} {os : List C3} (h : ∀ o ∈ os, ∀ k, -M ≤ cAt o k ∧ cAt o k ≤ M) (hn : -N ≤ n ∧ n ≤ N) : ∀ o ∈ behL g ax n os, ∀ k, -(M + N) ≤ cAt o k ∧ cAt o k ≤ M + N := fun o ho k => by
  obtain ⟨i, hi⟩ := List.mem_iff_getElem?.mp ho
  rw [behL_get] at hi
  cases e : os[i]? with
  | none => rw [e] at hi; cases hi
  | some c =>
    rw [e] at hi
    have hc := h c (List.mem_of_getElem? e)
    by_cases m : i ∈ g
    · simp only [Option.map, if_pos m] at hi
      cases hi
      exact shAx_bd hc hn k
    · simp only [Option.map, if_neg m] at hi
      cases hi
      have := hc k
      omega
/-- k in g, of ints -/
theorem in_nats {neg : Bool} {k : Nat} {g : List Nat} {y : D} {S : Sto} {Q : DQ} (h : seqOf S y = some (g.map fun k : Nat => D.int k)) (hk : k < 1000) (hg : ∀ k ∈ g, k < 1000) (q : Q (.bl (neg != decide (k ∈ g))) S) : inP neg (.int k) y S Q := by
  have sm : ∀ k : Nat, k < 1000 → Small 0 63 (.int (k : Int)) := fun k hk => small_int (by omega) (by omega)
  refine in_do h ((sm k hk).okE (by decide)) ((small_lst (k := 0) (n := 63) (m := g.length) (by rw [List.length_map]; exact Nat.le_refl _) fun x hx => ?_).okE (by decide)) ?_
  · obtain ⟨j, hj, rfl⟩ := List.mem_map.mp hx
    exact sm j (hg j hj)
  have e : (g.map fun k : Nat => D.int k).any (fun z => eqD z (.int k)) = decide (k ∈ g) := by
    rw [Bool.eq_iff_iff, List.any_eq_true, decide_eq_true_eq]
    constructor
    · rintro ⟨z, hz, e⟩
      obtain ⟨j, hj, rfl⟩ := List.mem_map.mp hz
      have : eqD (.int (j : Int)) (.int (k : Int)) = decide ((j : Int) = k) := by unfold eqD; simp only [py, PyData.eqv]; by_cases h : (j : Int) = k <;> simp [h]
      rw [this, decide_eq_true_eq] at e
      have : j = k := by omega
      rw [← this]; exact hj
    · intro h
      refine ⟨.int k, List.mem_map.mpr ⟨k, h, rfl⟩, ?_⟩
      unfold eqD; simp only [py, PyData.eqv]; simp
  rw [e]
  exact q
end DL
/-! Own errors: made and raised. -/
namespace DL
open PySem PySem.Spec PyProof.Rows L2
section
variable {X : Cx} {CX : CXT} {C f : Addr} {mc : Value} {x m : Str} {k : Nat} {fd : FuncData} {ps : List Str} {sp : Sp} {E : XK} {e : Expr} {es : List Expr} {ta : TA} {p1 p2 pos : Pos}
/-- C.m(e, ..), C an own class: its plain function -/
theorem pe_clsfn {pl : Sem Bool} (hg : Gl X x) (hm : X.mg x = some (.ref C)) (r : PySem.W.readsIn X.K C mc = true) (ga : PySem.W.specialIn X.K (.ref C) "__getattribute__" = some (some (.builtin "type.__getattribute__")))
    (hf : PySem.W.findCls X.K (.ref C) mc m = some (.val (.ref f))) (hh : PySem.W.handedIn (.ref f) = true) (F : FnOk X.prog X.w X.K X.mg X.base CX k f fd ps sp) (hr : Room k X.A) (kf : PySem.W.keepIn X.K (.ref f) = true) (hb : Binds X.K fd ps []) (hx : Passes CX X E)
    (ha : PA X (e :: es) ta) (hdb : (x == ("__debug__" : Str)) = false)
    (hc : eval (.Call (.Attribute (.Name x p1) m p2) (e :: es) [] pos) X.env = (do
      let o ← eval (.Name x p1) X.env
      standAt p2.atName
      let (g, first) ← holding [o] (getMethod o m pl)
      callWith pos g first (backTo pos (starEach (e :: es) X.env)) (backToKw pos (keywordEach [] X.env))))
    (he : starEach (e :: es) X.env = (false, eval e X.env) :: starEach es X.env) (hpl : (backTo pos (starEach es X.env)).any (·.1) = false) :
    PE X (.Call (.Attribute (.Name x p1) m p2) (e :: es) [] pos) (tCall sp [] E ta) := by
  refine ⟨fun pins s σ H Q I h => PySem.W.methodCall_KW (ld_glob I hg hm ?_ hdb) hc⟩
  refine PySem.W.method_cls I.kIn ga (PySem.W.cls_value I.kIn r hf hh ?_)
  show wpAny _ _ (callWith pos (Value.ref f) [] (backTo pos (starEach (e :: es) X.env)) []) _ _ _
  refine PySem.W.callWith_K (h₀ := X.base) I.ok.mod.kin kf (thn (ha.run pos pins _ σ H _ (I.tok _) h) fun us s1 ⟨vs, H1, I1, r1, q⟩ => ⟨I1.kIn, ?_⟩) he hpl
  exact run_fn F hr hb .nil hx I1 r1 q
end
/-- the class has such fields of its own only -/
structure ErrC (K : PySem.W.Frag) (C : Addr) : Prop where
  ox : OexC K C
  w : PySem.W.findIn K (.ref C) "word" = some none
  p : PySem.W.findIn K (.ref C) "place" = some none
abbrev errFs (w p : V) : List (Str × V) := [("place", p), ("word", w)]
/-- the heap behind: the error at a has its dict at d -/
def errH (H : Hp) (a C d : Addr) (w p : V) : Hp := upd (upd (upd H d (exd d [("word", w)])) a (exo a C (some d))) d (exd d (errFs w p))
def spPE (K : PySem.W.Frag) : Sp := fun vs H Q _ => ∃ (a C : Addr) (w p : V), vs = [.ref a, w, p] ∧ ErrC K C ∧ H a = some (exo a C none) ∧ ∀ d, H d = none → d ≠ a → Q .non (errH H a C d w p)
def spErr (K : PySem.W.Frag) (word : Str) : Sp := fun vs H Q _ => ∃ (a C : Addr) (p : V), vs = [.ref a, p] ∧ ErrC K C ∧ H a = some (exo a C none) ∧ ∀ d, H d = none → d ≠ a → Q .non (errH H a C d (.str word) p)
theorem spPE_len {K : PySem.W.Frag} : ∀ vs H Q E, spPE K vs H Q E → vs.length = 3 := fun vs H Q E ⟨a, C, w, p, h, _⟩ => by rw [h]; rfl
theorem spErr_len {K : PySem.W.Frag} {word : Str} : ∀ vs H Q E, spErr K word vs H Q E → vs.length = 2 := fun vs H Q E ⟨a, C, p, h, _⟩ => by rw [h]; rfl
end DL
namespace DL
open PySem PySem.Spec PyProof.Rows L2
section
variable {K : PySem.W.Frag}
theorem read_pe {vs : List V} {H : Hp} {Q : VK} {E : XK} (h : spPE K vs H Q E) : tSeq (tOst K "word" (tVar 0) (tVar 1)) (tOst K "place" (tVar 0) (tVar 2)) { nx := fun _ H' => Q .non H', rt := Q } (L2.start ["self", "word", "place"] vs) H := by
  obtain ⟨a, C, w, p, rfl, T, ea, q⟩ := h
  refine ⟨w, rfl, .ref a, rfl, a, C, rfl, T.ox, T.w, .inl ⟨ea, fun d hd da => ?_⟩⟩
  refine ⟨p, rfl, .ref a, rfl, a, C, rfl, T.ox, T.p, .inr ⟨d, _, upd_same, by rw [upd_ne da, upd_same], by show 1 ≤ 900; decide, q d hd da⟩⟩
theorem read_err {vs : List V} {H : Hp} {Q : VK} {E E' : XK} {word : Str} (h : spErr K word vs H Q E) : tDrop (tCall (spPE K) [] E' (tCons (tVar 0) (tCons (tC (.str word)) (tCons (tVar 1) tNil)))) { nx := fun _ H' => Q .non H', rt := Q } (L2.start ["self", "place"] vs) H := by
  obtain ⟨a, C, p, rfl, T, ea, q⟩ := h
  exact ⟨.ref a, rfl, p, rfl, a, C, .str word, p, rfl, T, ea, q⟩
end
/-! ### raise C(e) -/
section
variable {X : Cx} {B : Bs} {C fI : Addr} {x word : Str} {k : Nat} {fd : FuncData} {ps : List Str} {e : Expr} {es : List Expr} {mr : MA} {Wd : WD} {p pos pos2 : Pos}
abbrev errN : List Str := [("place" : Str), ("word" : Str)]
def dRaise (C : Addr) (word : Str) (Wd : WD) (mr : MA) : MS := fun _ env S => mr env S fun ds S1 => ∃ d, ds = [d] ∧ Wd C errN [d, .str word] env S1
theorem ds_raise (hcm : X.calm = true) (T : ErrC X.K C) (iC : PySem.W.findIn X.K (.ref C) "__init__" = some (some (.ref fI))) (tI : PySem.W.typeIn X.K (.ref fI) = some (.type "function"))
    (F1 : FnOk X.prog X.w X.K X.mg X.base (L2.CX X.prog X.w) k fI fd ps (spErr X.K word)) (hr : Room (k + 1) X.A) (hb : Binds X.K fd ps []) (hg : Gl X x) (hm : X.mg x = some (.ref C)) (tk : DTk X B Wd) (ha : DA X B (e :: es) mr)
    (hdb : (x == ("__debug__" : Str)) = false := by decide) (he : starEach (e :: es) X.env = (false, eval e X.env) :: starEach es X.env := by rfl) (hpl : (backTo pos (starEach es X.env)).any (·.1) = false := by rfl) :
    DS X B (.Raise (some (.Call (.Name x p) (e :: es) [] pos)) none pos2) (dRaise C word Wd mr) := by
  have hx : Passes (L2.CX X.prog X.w) X (fun _ _ _ => False) := passes_call (W := cW (kz X B) B Wd) tk fun _ _ _ _ z => z.elim
  refine PS_imp (ps_raise (W := cW (kz X B) B Wd) hcm tk (pmk_oex (dvs := []) (ds := []) T.ox iC tI F1 hr hb .nil hx hg hm ha hdb he hpl)) fun D σ H ⟨env, S, Dd, s, q, fi⟩ => ?_
  refine ⟨env, S, _, s, q, fun ds S1 vs H1 x1 R1 r1 q1 => ?_⟩
  obtain ⟨d, rfl, q1⟩ := q1
  obtain ⟨v, rfl, rv⟩ := r1.single
  refine ⟨by show 1 ≤ 1000; decide, fun a na => ⟨a, C, v, rfl, T, upd_same, fun dx hdx da => ?_⟩⟩
  have hd1 : H1 dx = none := by rw [upd_ne da] at hdx; exact hdx
  refine ⟨rfl, dx, errFs (.str word) v, ?_, ?_, hd1, ?_⟩
  · unfold errH
    rw [upd_ne da.symm, upd_same]
  · unfold errH
    rw [upd_same]
  have eh : upd (del (errH (upd H1 a (exo a C none)) a C dx (.str word) v) a) dx (.xd (errFs (.str word) v)) = upd H1 dx (.xd (errFs (.str word) v)) := by
    funext b
    by_cases hb : b = dx
    · subst hb; rw [upd_same, upd_same]
    · rw [upd_ne hb, upd_ne hb]
      by_cases hba : b = a
      · subst hba; rw [del_same, na]
      · unfold errH
        rw [del_ne hba, upd_ne hb, upd_ne hba, upd_ne hb, upd_ne hba]
  rw [eh]
  have x2 : Ext S1 H1 S1 (upd H1 dx (.xd (errFs (.str word) v))) := Ext.new hd1
  exact ⟨C, dx, errN, [d, .str word], [v, .str word], env, S1, rfl, rfl, upd_same, rfl, .cons (Rep.mono R1 x2 _ _ rv) (.cons (.str _) .nil), ((s.mono x1 R1).mono x2 (R1.new hd1)), q1⟩
end
end DL
/-! try: .. except C as e: .. -/
namespace DL
open PySem PySem.Spec PyProof.Rows L2
theorem EnvOk.gone {K : Kz} {S : Sto} {H : Hp} {env : DEnv} {σ : L2.St} (e : EnvOk K S H env σ) (i : Nat) : EnvOk K S H (env.set i none) (σ.set i none) := by
  refine ⟨by rw [List.length_set, List.length_set]; exact e.len, fun j d h => ?_⟩
  by_cases hij : i = j
  · subst hij
    rw [List.getElem?_set] at h
    split at h
    · split at h <;> cases h
    · rename_i z; exact absurd rfl z
  · rw [List.getElem?_set_ne hij] at h
    obtain ⟨v, hv, r⟩ := e.get j d h
    exact ⟨v, by rw [List.getElem?_set_ne hij]; exact hv, r⟩
theorem StOk.gone {K : Kz} {B : Bs} {S : Sto} {H : Hp} {env : DEnv} {σ : L2.St} (s : StOk K B S H env σ) (i : Nat) : StOk K B S H (env.set i none) (σ.set i none) := ⟨s.env.gone i, s.rel, s.base⟩
/-- the ends of a clause: the name is gone -/
def endE (i : Nat) (D : DEnds) : DEnds := { nx := fun e S => D.nx (e.set i none) S, rt := D.rt, bk := fun e S => D.bk (e.set i none) S, ct := fun e S => D.ct (e.set i none) S }
abbrev MTr := Addr → List Str → List D → Addr → MS
/-- what the try wishes of an error of its body -/
def wTry (K : PySem.W.Frag) (c : Value) (i : Nat) (tsd : MTr) (Wo : WD) (D : DEnds) : WD := fun C ns ds env S => ∃ b, PySem.W.exmOne K (.ref C) c = some b ∧
  (b = true → ∀ a, S a = none → tsd C ns ds a (endE i D) (env.set i (some (.ref a))) S) ∧ (b = false → Wo C ns ds env S)
def dTry (K : PySem.W.Frag) (c : Value) (i : Nat) (tbd : WD → MS) (tsd : MTr) (Wo : WD) : MS := fun D env S => tbd (wTry K c i tsd Wo D) D env S
section
variable {X : Cx} {B : Bs} {x n : Str} {c : Value} {body suite : List Stmt} {b₀ : Stmt} {np pos pos' : Pos} {tbd : WD → MS} {tsd : MTr} {Wo : WD}
/-- what stands at the suite's entry -/
structure ErrAt (K : Kz) (B : Bs) (oe : Obj) (C dd : Addr) (ns : List Str) (ds : List D) : Prop where
  z : Zc (.ref C) (some dd) oe
  f : ∃ vs, oe.data = .fields vs
  at_ : ∃ vs, B.H dd = some (.xd (ns.zip vs)) ∧ ns.length = vs.length ∧ RepL K B.S B.H ds vs
  fr : Free B.S B.H
theorem ds_try_as (i : Nat) (hs : X.stack = X.env :: X.outer) (hf : X.env.frame = some X.env.locals) (hN : X.N.Nodup) (hc : Names X x c) (tk : DTk X B Wo)
    (hb : ∀ (B1 : Bs) (Wd : WD) (pn : List (Addr × Obj)) (xe : Value → Shared → Prop), DTk (X.tr pn xe) B1 Wd → PassesOwn (model X.prog X.w) X.A X.env xe → DSs (X.tr pn xe) B1 body (tbd Wd))
    (hsu : ∀ (a : Addr) (oe : Obj) (C dd : Addr) (pn : List (Addr × Obj)) (B1 : Bs) (ns : List Str) (ds : List D), ErrAt (kz X B1) B1 oe C dd ns ds → DSs (X.suite a ((a, oe) :: pn)) B1 (b₀ :: suite) (tsd C ns ds a))
    (hi : X.N[i]? = some n := by rfl) (hln : X.env.kindOf n = some .local := by rfl) :
    DS X B (.Try body [.ExceptHandler (some (.Name x np)) (some n) (b₀ :: suite) pos'] [] [] pos) (dTry X.K c i tbd tsd Wo) := by
  refine PS_imp (ps_try_as (Wout := cW (kz X B) B Wo) hs hf hN hi hln hc tk
    (tb := fun W D σ H => ∃ (B1 : Bs) (Wd : WD), B1.Z = B.Z ∧ (∀ c d σ H, cW (kz X B1) B1 Wd c d σ H → W c d σ H) ∧ cS (kz X B1) B1 (tbd Wd) D σ H)
    (ts := fun a cls d D σ H => ∃ (C dd : Addr) (B1 : Bs) (ns : List Str) (ds : List DL.D), cls = .ref C ∧ d = some dd ∧ (∃ vs, B1.H dd = some (.xd (ns.zip vs)) ∧ ns.length = vs.length ∧ RepL (kz X B1) B1.S B1.H ds vs) ∧ Free B1.S B1.H ∧ cS (kz X B1) B1 (tsd C ns ds a) D σ H)
    (fun W pn xe tkW po => ⟨fun pins s σ H D I ⟨B1, Wd, _, im, h⟩ => (hb B1 Wd pn xe (tkW.imp im) po).run pins s σ H D I h⟩)
    (fun a oe cls d pn hz hfd => ⟨fun pins s σ H D I ⟨C, dd, B1, ns, ds, e1, e2, h1, h2, h⟩ => by
      subst e1 e2
      exact (hsu a oe C dd pn B1 ns ds ⟨hz, hfd, h1, h2⟩).run pins s σ H D I h⟩)) fun D σ H ⟨env, S, Dd, s, q, f⟩ => ?_
  have s1 : StOk (kz X B) ⟨S, H, B.Z⟩ S H env σ := ⟨s.env, s.rel, Ext.refl⟩
  refine ⟨⟨S, H, B.Z⟩, wTry X.K c i tsd Wo Dd, rfl, ?_, env, S, Dd, s1, q, ⟨fun e S' σ' H' x st => f.nx e S' σ' H' x ⟨st.env, st.rel, s.base.trans st.base⟩, f.rt, fun e S' σ' H' x st => f.bk e S' σ' H' x ⟨st.env, st.rel, s.base.trans st.base⟩, fun e S' σ' H' x st => f.ct e S' σ' H' x ⟨st.env, st.rel, s.base.trans st.base⟩⟩⟩
  rintro cls d σ' H' ⟨C, dd, ns, ds, vs, env', S', rfl, rfl, hdd, hl, rl, st, b, he, hy, hn⟩
  have R' : Rel (kz X B) S' H' := st.rel
  refine ⟨b, he, fun hb1 a na => ?_, fun hb0 => ⟨C, dd, ns, ds, vs, env', S', rfl, rfl, hdd, hl, rl, ⟨st.env, st.rel, s.base.trans st.base⟩, hn hb0⟩⟩
  have q1 := hy hb1 a (R'.fresh na)
  have s2 : StOk (kz X B) ⟨S', H', B.Z⟩ S' H' (env'.set i (some (.ref a))) (σ'.set i (some (.ref a))) := ⟨st.env.set (.ref a) i, st.rel, Ext.refl⟩
  refine ⟨C, dd, ⟨S', H', B.Z⟩, ns, ds, rfl, rfl, ⟨vs, hdd, hl, rl⟩, R'.fr, env'.set i (some (.ref a)), S', endE i Dd, s2, q1, ?_⟩
  have xb : Ext S H S' H' := st.base
  have back : ∀ {e S2 σ2 H2}, StOk (kz X B) ⟨S', H', B.Z⟩ S2 H2 e σ2 → StOk (kz X B) B S2 H2 (e.set i none) (σ2.set i none) := fun {e S2 σ2 H2} t => ⟨t.env.gone i, t.rel, (s.base.trans xb).trans t.base⟩
  exact ⟨fun e S2 σ2 H2 x2 t => f.nx _ S2 _ H2 (xb.trans x2) (back t), fun d S2 v H2 x2 => f.rt d S2 v H2 (xb.trans x2), fun e S2 σ2 H2 x2 t => f.bk _ S2 _ H2 (xb.trans x2) (back t), fun e S2 σ2 H2 x2 t => f.ct _ S2 _ H2 (xb.trans x2) (back t)⟩
end
end DL
namespace DL
open PySem PySem.Spec PyProof.Rows L2
/-! ### in the clause's suite -/
theorem zip_look {K : Kz} {S : Sto} {H : Hp} {f : Str} : ∀ {ns : List Str} {ds : List D} {vs : List V} {t : D}, RepL K S H ds vs → (ns.zip ds).lookup f = some t → ∃ v, (ns.zip vs).lookup f = some v ∧ Rep K S H t v
  | [], _, _, _, _, h => by simp at h
  | n :: ns, _, _, t, .nil, h => by simp at h
  | n :: ns, _, _, t, .cons a b, h => by
    simp only [List.zip_cons_cons, List.lookup_cons] at h ⊢
    split at h
    · cases h
      exact ⟨_, rfl, a⟩
    · exact zip_look b h
theorem ErrAt.dict {K : Kz} {B : Bs} {oe : Obj} {C dd : Addr} {ns : List Str} {ds : List D} (e : ErrAt K B oe C dd ns ds) {S : Sto} {H : Hp} (x : Ext B.S B.H S H) : ∃ vs, H dd = some (.xd (ns.zip vs)) ∧ RepL K S H ds vs := by
  obtain ⟨vs, h, hl, r⟩ := e.at_
  exact ⟨vs, (x _ _ h (e.fr _ _ h rfl)).1, RepL.monoF e.fr x _ _ r⟩
/-- e.f -/
def dXf (K : PySem.W.Frag) (C a : Addr) (ns : List Str) (ds : List D) (f : Str) (me : ME) : ME := fun env S Q => XfC K C ∧ PySem.W.findIn K (.ref C) f = some none ∧ me env S fun x S1 => x = .ref a ∧ ∃ t, (ns.zip ds).lookup f = some t ∧ Q t S1
section
variable {X : Cx} {B : Bs} {a C dd : Addr} {oe : Obj} {pn : List (Addr × Obj)} {ns : List Str} {ds : List D} {e : Expr} {es : List Expr} {me : ME} {mr : MA} {f : Str} {pos pc : Pos}
theorem de_xf (er : ErrAt (kz X B) B oe C dd ns ds) (he : DE (X.suite a ((a, oe) :: pn)) B e me) (hb : attributeBase e f X.env (eval e X.env) = eval e X.env := by rfl) :
    DE (X.suite a ((a, oe) :: pn)) B (.Attribute e f pos) (dXf X.K C a ns ds f me) := by
  refine ⟨fun pins s σ H Q I ⟨env, S, Qd, st, ⟨T, hno, q⟩, fi⟩ => ?_⟩
  refine (pe_xf (d := some dd) T hno er.z er.f he hb).run pins s σ H Q I ⟨env, S, _, st, q, fun x S1 v H1 x1 R1 r1 q1 => ?_⟩
  obtain ⟨rfl, t, ht, q1⟩ := q1
  cases r1
  obtain ⟨vs, hd, rl⟩ := er.dict (st.base.trans x1)
  obtain ⟨v, hv, rv⟩ := zip_look rl ht
  exact ⟨rfl, rfl, dd, _, v, rfl, hd, hv, fi t S1 v H1 x1 R1 rv q1⟩
/-- isinstance(e, c) of the error that the suite holds -/
def rIsX (K : PySem.W.Frag) (C a dd : Addr) : List V → Hp → VK → Prop := fun xs H Q => ExcC K C ∧ (∃ fs, H dd = some (.xd fs)) ∧ ∃ (c : V) (cv : Value) (b : Bool), xs = [.ref a, c] ∧ (∀ u, RelV c u → u = cv) ∧ PySem.W.kitOne K (.ref C) cv = some b ∧ Q (.bl b) H
theorem call_isX (hz : Zc (.ref C) (some dd) oe) (hf : ∃ vs, oe.data = .fields vs) : CallR (X.suite a ((a, oe) :: pn)) (.builtin "isinstance") (rIsX X.K C a dd) := by
  intro pins s σ H xs us Q I r h
  obtain ⟨T, ⟨fs, hdd⟩, c, cv, b, rfl, hcv, ek, q⟩ := h
  obtain ⟨u1, u2, rfl, r1, r2⟩ : ∃ u1 u2, us = [u1, u2] ∧ RelV (.ref a) u1 ∧ RelV c u2 := by
    cases r with
    | cons p t =>
      cases t with
      | cons p2 t => cases t; exact ⟨_, _, rfl, p, p2⟩
  have e2 := hcv _ r2
  subst e2
  cases r1
  obtain ⟨ga, _⟩ := I.pin (a, oe) (List.mem_append_left _ List.mem_cons_self)
  obtain ⟨vs, hv⟩ := hf
  obtain ⟨mA, hns, _⟩ : ObjOk X.prog X.w H s.heap dd (.xd fs) := I.hok dd _ hdd
  obtain ⟨od, ho, _⟩ := lookIn_ns hns
  have J : PySem.W.InstAt s.heap a oe C (some od) := ⟨ga, hz.1, by unfold PySem.W.notCls; rw [hv] <;> rfl, by rw [hz.2]; exact ho⟩
  have hcl : (PySem.W.clsIn X.K C).isSome = true := by
    cases hq : PySem.W.clsIn X.K C with
    | some _ => rfl
    | none => exact absurd T.hd (by unfold PySem.W.hasDictIn; rw [hq]; exact Bool.false_ne_true)
  exact PySem.W.kia_one (PySem.W.kitx_exc hcl T.hg T.hk T.hs T.ha T.hn T.ht T.hm) I.kIn J ek (fun z => nomatch z) fun tk => ⟨.bl b, H, I.kept (t' := tk) fun _ _ z => z, rfl, q⟩
end
end DL
namespace DL
open PySem PySem.Spec PyProof.Rows L2
section
variable {X : Cx} {B : Bs} {a C dd : Addr} {oe : Obj} {pn : List (Addr × Obj)} {ns : List Str} {ds : List D} {e : Expr} {es : List Expr} {me : ME} {mr : MA} {pos pc : Pos} {k : Nat}
/-- a class as a value -/
def clsV : D → Option Value
  | .ref C => some (.ref C)
  | .ty n => some (.type n)
  | _ => none
def isXP (K : PySem.W.Frag) (C a : Addr) : DN := fun ds S Q => ExcC K C ∧ ∃ c cv b, ds = [.ref a, c] ∧ clsV c = some cv ∧ PySem.W.kitOne K (.ref C) cv = some b ∧ Q (.bl b) S
theorem de_isX (er : ErrAt (kz X B) B oe C dd ns ds) (hg : Gl X "isinstance") (hm : X.mg "isinstance" = none) (hv : bootBuiltins "isinstance" = some (.builtin "isinstance")) (ha : DA (X.suite a ((a, oe) :: pn)) B (e :: es) mr)
    (he : starEach (e :: es) X.env = (false, eval e X.env) :: starEach es X.env := by rfl) (hpl : (backTo pos (starEach es X.env)).any (·.1) = false := by rfl) :
    DE (X.suite a ((a, oe) :: pn)) B (.Call (.Name "isinstance" pc) (e :: es) [] pos) (dCB (isXP X.K C a) mr) :=
  PE_imp (pe_callB (X := X.suite a ((a, oe) :: pn)) (call_isX er.z er.f) hg hm hv ha (by decide) (by decide) he hpl) fun σ H Q ⟨env, S, Qd, s, q, f⟩ => by
    refine ⟨env, S, _, s, q, fun ts S1 vs H1 x1 R1 r1 q1 => ?_⟩
    obtain ⟨T, c, cv, b, rfl, hc, hk, q1⟩ := q1
    obtain ⟨v, v2, rfl, rv, rv2⟩ := r1.two
    obtain ⟨ws, hd, _⟩ := er.dict (s.base.trans x1)
    cases rv
    refine ⟨T, ⟨_, hd⟩, v2, cv, b, rfl, fun u ru => ?_, hk, f (.bl b) S1 _ H1 x1 R1 (.bl b) q1⟩
    cases c with
    | ref A => cases rv2; cases hc; exact ru
    | ty n => cases rv2; cases hc; exact ru
    | _ => cases hc
theorem Amb.suite (m : Amb X.A k) : AmbW (X.suite a pn).A k := ⟨m.room.dp, m.room.un, m.guards⟩
theorem cd_eqW (m : AmbW X.A k) : CmpD X B .Eq eqP := ⟨_, op_eqA (by have := m.un; omega), opd_eq⟩
theorem cd_neW (m : AmbW X.A k) : CmpD X B .NotEq neP := ⟨_, op_neA (by have := m.un; omega), opd_ne⟩
end
section
variable {K : PySem.W.Frag} {c : Value} {i : Nat} {tbd : WD → MS} {tsd : MTr} {Wo Wd : WD} {D0 : DEnds} {env : DEnv} {S : Sto} {C a : Addr} {ns : List Str} {ds : List D} {f word : Str} {me : ME} {mr : MA}
theorem z_try : dTry K c i tbd tsd Wo D0 env S = tbd (wTry K c i tsd Wo D0) D0 env S := rfl
def zRaise (C : Addr) (word : Str) (Wd : WD) (env : DEnv) (ds : List D) (S : Sto) : Prop := ∃ d, ds = [d] ∧ Wd C errN [d, .str word] env S
theorem z_raise : dRaise C word Wd mr D0 env S = mr env S (zRaise C word Wd env) := rfl
theorem z_raise1 {d : D} : zRaise C word Wd env [d] S = Wd C errN [d, .str word] env S := by
  apply propext
  exact ⟨fun ⟨_, e, h⟩ => by cases e; exact h, fun h => ⟨d, rfl, h⟩⟩
def zXf (a : Addr) (ns : List Str) (ds : List D) (f : Str) (Q : DQ) (x : D) (S1 : Sto) : Prop := x = .ref a ∧ ∃ t, (ns.zip ds).lookup f = some t ∧ Q t S1
theorem z_xf {Q : DQ} : dXf K C a ns ds f me env S Q = (XfC K C ∧ PySem.W.findIn K (.ref C) f = some none ∧ me env S (zXf a ns ds f Q)) := rfl
theorem xf_do {Q : DQ} {t : D} (h : (ns.zip ds).lookup f = some t) (q : Q t S) : zXf a ns ds f Q (.ref a) S := ⟨rfl, t, h, q⟩
theorem isX_do {Q : DQ} {c : D} {cv : Value} {b : Bool} (T : ExcC K C) (hc : clsV c = some cv) (hk : PySem.W.kitOne K (.ref C) cv = some b) (q : Q (.bl b) S) : isXP K C a [.ref a, c] S Q := ⟨T, c, cv, b, rfl, hc, hk, q⟩
end
end DL
/-! Own errors: what a written class must have, asked once. -/
namespace DL
open PySem PySem.Spec PyProof.Rows L2
structure ErrA (K : PySem.W.Frag) (C : Addr) : Prop where
  c : ErrC K C
  x : XfC K C
  i : ExcC K C
def shapeB (C : Addr) : Option Obj → Bool
  | some ⟨.type t, dd, .cls ⟨nm, bs, .ref C' :: bm, N, q, true, sn, sub, ab, col, false⟩, ⟨[k0, k1, k2, k3, some (.builtin nid), k5]⟩⟩ => decide (t = "type") && (decide (nid = "ValueError.__new__") && (C' == C && PySem.HandSPX.refsVE bm))
  | _ => false
theorem shapeB_ok {C : Addr} : ∀ {o : Option Obj}, shapeB C o = true → ∃ nm q N bs bm sn sub ab col dd k0 k1 k2 k3 k5, o = some (excClassObj nm q C N bs bm true sn sub ab col dd k0 k1 k2 k3 k5 "ValueError.__new__") ∧ PySem.HandSPX.refsVE bm = true := by
  intro o h
  unfold shapeB at h
  split at h
  · obtain ⟨h1, h⟩ := Bool.and_eq_true_iff.mp h
    obtain ⟨h2, h⟩ := Bool.and_eq_true_iff.mp h
    obtain ⟨h3, h4⟩ := Bool.and_eq_true_iff.mp h
    have e1 := of_decide_eq_true h1
    have e2 := of_decide_eq_true h2
    have e3 := eq_of_beq h3
    subst e1 e2 e3
    exact ⟨_, _, _, _, _, _, _, _, _, _, _, _, _, _, _, rfl, h4⟩
  · cases h
def errB (K : PySem.W.Frag) (C : Addr) : Bool :=
  [shapeB C (K.lookup C), decide (PySem.W.findIn K (.ref C) "__setattr__" = some (some (.builtin "object.__setattr__"))), decide (PySem.W.typeIn K (.ref C) = some (.type "type")), PySem.W.keepIn K (.ref C),
    decide (PySem.W.findIn K (.ref C) "word" = some none), decide (PySem.W.findIn K (.ref C) "place" = some none), xfB K C,
    decide (PySem.W.findIn K (.ref C) "__class__" = some (some (.builtin "object.__class__"))), decide (PySem.W.specialIn K (.builtin "object.__class__") "__get__" = some (some (.builtin "getset_descriptor.__get__"))),
    decide (PySem.W.takesIn K (.builtin "object.__class__") = some true), decide (PySem.W.mroIn K C (.type "object") = some true)].all id
theorem errB_ok {K : PySem.W.Frag} {C : Addr} (h : errB K C = true) : ErrA K C := by
  unfold errB at h
  simp only [List.all_cons, List.all_nil, id, Bool.and_eq_true, Bool.and_true, decide_eq_true_eq] at h
  obtain ⟨h1, h2, h3, h4, h5, h6, h7, h8, h9, h10, h11⟩ := h
  have X := xfB_ok h7
  exact ⟨⟨⟨shapeB_ok h1, h2, X.exC, h3, h4⟩, h5, h6⟩, X, ⟨X.ga, X.gg, X.exC, X.hdC, h8, h9, h10, h11⟩⟩
end DL
/-! Own errors raised without arguments. -/
namespace DL
open PySem PySem.Spec PyProof.Rows L2
section
variable {X : Cx} {C fI : Addr} {x : Str} {k : Nat} {fd : FuncData} {ps : List Str} {sp : Sp} {gs : List Value} {gv : List V} {p pos : Pos}
theorem pmk_own0 (T : OexC X.K C) (iC : PySem.W.findIn X.K (.ref C) "__init__" = some (some (.ref fI))) (tI : PySem.W.typeIn X.K (.ref fI) = some (.type "function"))
    (G : FnOk X.prog X.w X.K X.mg X.base (L2.CX X.prog X.w) k fI fd ps sp) (room : Room (k + 1) X.A) (bd : Binds X.K fd ps gs) (vd : Vals gv gs) (out : Passes (L2.CX X.prog X.w) X (fun _ _ _ => False)) (hg : Gl X x) (hm : X.mg x = some (.ref C))
    (hdb : (x == ("__debug__" : Str)) = false := by decide) : PMk X (.Call (.Name x p) [] [] pos) (tMkO C sp gv tNil) := by
  intro pins s0 σ H Q I w
  obtain ⟨_, w⟩ := w
  obtain ⟨_, _, _, _, bm, _, _, _, _, _, _, _, _, _, _, look, tail⟩ := T.cls
  refine wpAny_Call_Name_kw (ld_glob I hg hm ?_ hdb)
  refine PySem.W.callWith_K0 I.kIn T.kC ?_
  obtain ⟨hp, g, dr, tk, os⟩ := s0
  let n := hp.objs.size
  have up : hp.objs.size ≤ n + 1 := Nat.le_succ n
  have free : H (n + 1) = none := I.hok.fresh up
  have go := w (n + 1) free
  let h2 : Heap := (hp.push (PySem.W.kdv_tup [])).push (PySem.HandSPX.excO C n)
  have keep : ∀ b o, hp.get? b = some o → h2.get? b = some o := fun b o z => Heap.get?_push_of_some _ (Heap.get?_push_of_some _ z)
  have at1 : h2.get? (n + 1) = some (PySem.HandSPX.excO C n) := by
    show ((hp.push _).push _).get? (hp.objs.size + 1) = some (PySem.HandSPX.excO C hp.objs.size)
    heap_get
  have J : Inv X pins σ (upd H (n + 1) (exo (n + 1) C none)) ⟨h2, g, dr, tk, os⟩ := I.laid (t' := tk) keep up (exo_ok at1)
  have both : Vals (V.ref (n + 1) :: gv) (Value.ref (n + 1) :: gs) := .cons rfl vd
  have many : (Value.ref (n + 1) :: gs).length = ps.length := by
    rw [← G.len _ _ _ _ go]
    exact both.length.symm
  refine wpAny_call (PySem.HandSPX.call_own F.excBase_ValueError (fun Y => PySem.HandSPX.refsVE_contains Y bm tail) (I.kIn _ _ look) (PySem.W.looks_findIn I.kIn iC) (fun me => PySem.W.bind_fn I.kIn me tI) (Nat.zero_le _) ?_)
  refine codeAny_mono (G.run _ X.stack _ _ ⟨[Value.ref (n + 1)], []⟩ (Value.ref (n + 1) :: gs) _ _ (fun _ _ _ => False) (room.make C [] []) (J.env0.make C [] []) (bd _ [Value.ref (n + 1)] J.kIn many) both go) fun r s3 hr => ?_
  match r, hr with
  | .error er, hr => exact out pins σ _ _ er s3 J hr
  | .ok (.ret u), ⟨v, H2, a1, a2, a3, a4, a5, a6, d, fs, a7, a8, a9, fin⟩ =>
    subst a6
    obtain ⟨h4, g4, d4, t4, os4⟩ := s3
    exact ⟨a5, mk_end (raises_own T.exC T.tyC) I up keep a3 a4 a1 a2 a7 a8 a9 fin⟩
  | .ok .next, hr => exact False.elim hr
  | .ok .brk, hr => exact False.elim hr
  | .ok .cont, hr => exact False.elim hr
end
section
variable {X : Cx} {B : Bs} {C fI : Addr} {x word : Str} {k : Nat} {fd : FuncData} {ps : List Str} {Wd : WD} {p pos pos2 : Pos}
def dRaise0 (C : Addr) (word : Str) (Wd : WD) : MS := fun _ env S => Wd C errN [.non, .str word] env S
theorem ds_raise0 (hcm : X.calm = true) (T : ErrC X.K C) (iC : PySem.W.findIn X.K (.ref C) "__init__" = some (some (.ref fI))) (tI : PySem.W.typeIn X.K (.ref fI) = some (.type "function"))
    (F1 : FnOk X.prog X.w X.K X.mg X.base (L2.CX X.prog X.w) k fI fd ps (spErr X.K word)) (hr : Room (k + 1) X.A) (hb : Binds X.K fd ps [.none]) (hg : Gl X x) (hm : X.mg x = some (.ref C)) (tk : DTk X B Wd)
    (hdb : (x == ("__debug__" : Str)) = false := by decide) :
    DS X B (.Raise (some (.Call (.Name x p) [] [] pos)) none pos2) (dRaise0 C word Wd) := by
  have hx : Passes (L2.CX X.prog X.w) X (fun _ _ _ => False) := passes_call (W := cW (kz X B) B Wd) tk fun _ _ _ _ z => z.elim
  have vn : Vals [V.non] [Value.none] := .cons rfl .nil
  refine PS_imp (ps_raise (W := cW (kz X B) B Wd) hcm tk (pmk_own0 (gs := [.none]) (gv := [.non]) T.ox iC tI F1 hr hb vn hx hg hm hdb)) fun D σ H ⟨env, S, Dd, s, q, fi⟩ => ?_
  refine ⟨by show 0 ≤ 1000; decide, fun a na => ⟨a, C, .non, rfl, T, upd_same, fun dx hdx da => ?_⟩⟩
  have hd1 : H dx = none := by rw [upd_ne da] at hdx; exact hdx
  refine ⟨rfl, dx, errFs (.str word) .non, ?_, ?_, hd1, ?_⟩
  · unfold errH
    rw [upd_ne da.symm, upd_same]
  · unfold errH
    rw [upd_same]
  have eh : upd (del (errH (upd H a (exo a C none)) a C dx (.str word) .non) a) dx (.xd (errFs (.str word) .non)) = upd H dx (.xd (errFs (.str word) .non)) := by
    funext b
    by_cases hb : b = dx
    · subst hb; rw [upd_same, upd_same]
    · rw [upd_ne hb, upd_ne hb]
      by_cases hba : b = a
      · subst hba; rw [del_same, na]
      · unfold errH
        rw [del_ne hba, upd_ne hb, upd_ne hba, upd_ne hb, upd_ne hba]
  rw [eh]
  have x2 : Ext S H S (upd H dx (.xd (errFs (.str word) .non))) := Ext.new hd1
  have R : Rel (kz X B) S H := s.rel
  exact ⟨C, dx, errN, [.non, .str word], [.non, .str word], env, S, rfl, rfl, upd_same, rfl, .cons .non (.cons (.str _) .nil), (s.mono x2 (R.new hd1)), q⟩
theorem z_raise0 {D0 : DEnds} {env : DEnv} {S : Sto} : dRaise0 C word Wd D0 env S = Wd C errN [.non, .str word] env S := rfl
end
end DL
/-! Hanging together. -/
namespace DL
open PySem PySem.Spec PyProof.Rows L2
inductive Reach (cs : List C3) (a : C3) : C3 → Prop
  | refl : Reach cs a a
  | step {b c : C3} : Reach cs a b → c ∈ cs → dist b c = 1 → Reach cs a c
theorem dist_comm (a b : C3) : dist a b = dist b a := by unfold dist; omega
theorem Reach.trans {cs : List C3} {a b c : C3} (h : Reach cs a b) (g : Reach cs b c) : Reach cs a c := by
  induction g with
  | refl => exact h
  | step _ hc hd ih => exact .step ih hc hd
theorem Reach.mem {cs : List C3} {a b : C3} (ha : a ∈ cs) (h : Reach cs a b) : b ∈ cs := by
  cases h with
  | refl => exact ha
  | step _ hc _ => exact hc
theorem Reach.symm {cs : List C3} {a b : C3} (ha : a ∈ cs) (h : Reach cs a b) : Reach cs b a := by
  induction h with
  | refl => exact .refl
  | @step b c hb hc hd ih => exact Reach.trans (.step .refl (hb.mem ha) (by rw [dist_comm]; exact hd)) ih
/-- all of them are one lot -/
def Conn (cs : List C3) : Prop := ∀ a ∈ cs, ∀ b ∈ cs, Reach cs a b
theorem conn_head {c : C3} {cs : List C3} : Conn (c :: cs) ↔ ∀ b ∈ c :: cs, Reach (c :: cs) c b :=
  ⟨fun h b hb => h c List.mem_cons_self b hb, fun h a ha b hb => (Reach.symm List.mem_cons_self (h a ha)).trans (h b hb)⟩
noncomputable def hangs (cs : List C3) : Bool := open Classical in decide (Conn cs)
theorem hangs_iff {cs : List C3} : hangs cs = true ↔ Conn cs := by unfold hangs; simp
theorem reach_closed {cs F : List C3} {a : C3} (ha : a ∈ F) (h : ∀ b ∈ F, ∀ c ∈ cs, dist b c = 1 → c ∈ F) {b : C3} (r : Reach cs a b) : b ∈ F := by
  induction r with
  | refl => exact ha
  | step _ hc hd ih => exact h _ ih _ hc hd
theorem conn_perm {l m : List C3} (p : l.Perm m) (h : Conn l) : Conn m := by
  have go : ∀ {a b : C3}, Reach l a b → Reach m a b := fun {a b} r => by
    induction r with
    | refl => exact .refl
    | step _ hc hd ih => exact .step ih (p.mem_iff.mp hc) hd
  exact fun a ha b hb => go (h a (p.mem_iff.mpr ha) b (p.mem_iff.mpr hb))
theorem conn_of {c : C3} {cs : List C3} (hc : c ∈ cs) : Conn cs ↔ ∀ b ∈ cs, Reach cs c b :=
  ⟨fun h b hb => h c hc b hb, fun h a ha b hb => (Reach.symm hc (h a ha)).trans (h b hb)⟩
theorem perm_without {c : C3} : ∀ {L : List C3}, c ∈ L → L.Nodup → (c :: L.filter fun b => decide (b ≠ c)).Perm L
  | [], h, _ => by cases h
  | x :: L, h, nd => by
    obtain ⟨hx, nd'⟩ := List.nodup_cons.mp nd
    by_cases e : x = c
    · subst e
      rw [List.filter_cons_of_neg (by simp)]
      have : L.filter (fun b => decide (b ≠ x)) = L := List.filter_eq_self.mpr fun b hb => decide_eq_true fun e => hx (e ▸ hb)
      rw [this]
    · have hm : c ∈ L := by
        rcases List.mem_cons.mp h with h | h
        · exact absurd h.symm e
        · exact h
      rw [List.filter_cons_of_pos (by simp [e])]
      exact (List.Perm.swap _ _ _).trans ((perm_without hm nd').cons x)
/-- the search so far: found F, left L, the first pl of F done -/
structure Srch (cs : List C3) (c0 : C3) (F L : List C3) : Prop where
  perm : (F ++ L).Perm cs
  head : c0 ∈ F
  reach : ∀ b ∈ F, Reach cs c0 b
def Done (cs F : List C3) (b : C3) : Prop := ∀ c ∈ cs, dist b c = 1 → c ∈ F
theorem Srch.nodup {cs F L : List C3} {c0 : C3} (s : Srch cs c0 F L) (nd : cs.Nodup) : (F ++ L).Nodup := s.perm.symm.nodup nd
theorem Srch.move {cs F L : List C3} {c0 b c : C3} (s : Srch cs c0 F L) (nd : cs.Nodup) (hc : c ∈ L) (hb : b ∈ F) (hd : dist b c = 1) : Srch cs c0 (F ++ [c]) (L.filter fun b => decide (b ≠ c)) := by
  have n := (List.nodup_append.mp (s.nodup nd))
  have hcs : c ∈ cs := s.perm.mem_iff.mp (List.mem_append_right _ hc)
  refine ⟨?_, List.mem_append_left _ s.head, fun x hx => ?_⟩
  · rw [List.append_assoc]
    exact ((perm_without hc n.2.1).append_left F).trans s.perm
  · rcases List.mem_append.mp hx with hx | hx
    · exact s.reach x hx
    · rw [List.mem_singleton.mp hx]
      exact .step (s.reach b hb) hcs hd
theorem Srch.end_ {cs F L : List C3} {c0 : C3} (s : Srch cs c0 F L) (nd : cs.Nodup) (h : ∀ b ∈ F, Done cs F b) : decide (L.length = 0) = hangs cs := by
  have h0 : c0 ∈ cs := s.perm.mem_iff.mp (List.mem_append_left _ s.head)
  rw [Bool.eq_iff_iff, hangs_iff, conn_of h0, decide_eq_true_eq]
  constructor
  · intro e b hb
    obtain rfl := List.length_eq_zero_iff.mp e
    have := s.perm.mem_iff.mpr hb
    rw [List.append_nil] at this
    exact s.reach b this
  · intro hr
    rw [List.length_eq_zero_iff, List.eq_nil_iff_forall_not_mem]
    intro b hb
    have hF := reach_closed s.head h (hr b (s.perm.mem_iff.mp (List.mem_append_right _ hb)))
    exact (List.nodup_append.mp (s.nodup nd)).2.2 b hF b hb rfl
theorem conn_more {cs ds : List C3} (h : ∀ c ∈ cs, c ∈ ds) {a b : C3} (r : Reach cs a b) : Reach ds a b := by
  induction r with
  | refl => exact .refl
  | step _ hc hd ih => exact .step ih (h _ hc) hd
theorem conn_one {c : C3} : Conn [c] := fun a ha b hb => by rw [List.mem_singleton.mp ha, List.mem_singleton.mp hb]; exact .refl
theorem conn_grow {cs : List C3} {b x : C3} (g : Conn cs) (hb : b ∈ cs) (hd : dist b x = 1) : Conn (cs ++ [x]) := fun u hu v hv => by
  have up : ∀ c ∈ cs, c ∈ cs ++ [x] := fun c h => List.mem_append_left _ h
  have mx : x ∈ cs ++ [x] := by simp
  have hto : ∀ w ∈ cs, Reach (cs ++ [x]) w x := fun w hw => .step (conn_more up (g w hw b hb)) mx hd
  have hfr : ∀ w ∈ cs, Reach (cs ++ [x]) x w := fun w hw => (Reach.step .refl (up b hb) (by rw [dist_comm]; exact hd)).trans (conn_more up (g b hb w hw))
  rcases List.mem_append.mp hu with hu | hu <;> rcases List.mem_append.mp hv with hv | hv
  · exact conn_more up (g u hu v hv)
  · rw [List.mem_singleton.mp hv]; exact hto u hu
  · rw [List.mem_singleton.mp hu]; exact hfr v hv
  · rw [List.mem_singleton.mp hu, List.mem_singleton.mp hv]; exact .refl
end DL
/-! Loops that change some slots alone. -/
namespace DL
open PySem PySem.Spec PyProof.Rows L2
/-- the slots vs hold xs, all others as before -/
def fill (env : DEnv) : List Nat → List (Option D) → DEnv
  | v :: vs, x :: xs => (fill env vs xs).set v x
  | _, _ => env
theorem for_vs {g : MG} {tb : MS} {ok : Sto → Prop} {D0 : DEnds} {all : List D} {env : DEnv} {S : Sto} (vs : List Nat) (I : Nat → List (Option D) → Sto → Prop) {xs0 : List (Option D)} (e0 : fill env vs xs0 = env) (h0 : I 0 xs0 S)
    (hs : ∀ k d xs S (Z : DEnv → Sto → Prop), all[k]? = some d → I k xs S → (∀ xs' S', I (k + 1) xs' S' → Z (fill env vs xs') S') → ok S ∧ g d (fill env vs xs) S fun env' S' => tb { D0 with nx := Z, ct := Z, bk := D0.nx } env' S')
    (hd : ∀ xs S, I all.length xs S → ok S ∧ D0.nx (fill env vs xs) S) : forR g tb ok D0 all env S :=
  for_inv (fun k env' S' => ∃ xs, env' = fill env vs xs ∧ I k xs S') ⟨xs0, e0.symm, h0⟩
    (fun k d env' S' Z hk ⟨xs, e, i⟩ hz => by subst e; exact hs k d xs S' Z hk i fun xs' S2 h => hz _ _ ⟨xs', rfl, h⟩)
    (fun env' S' ⟨xs, e, i⟩ => by subst e; exact hd xs S' i)
theorem fill_nil {env : DEnv} {xs : List (Option D)} : fill env [] xs = env := by cases xs <;> rfl
theorem fill_cons {env : DEnv} {v : Nat} {vs : List Nat} {x : Option D} {xs : List (Option D)} : fill env (v :: vs) (x :: xs) = (fill env vs xs).set v x := rfl
/-! ### equality of data without truth values -/
mutual
def flatD : D → Bool
  | .non => true
  | .int _ => true
  | .str _ => true
  | .tup xs => flatAll xs
  | .lst xs => flatAll xs
  | _ => false
def flatAll : List D → Bool
  | [] => true
  | d :: ds => flatD d && flatAll ds
end
mutual
theorem eqD_flat : ∀ (x y : D), flatD x = true → flatD y = true → (eqD x y = true ↔ x = y)
  | .non, y, _, hy => by cases y <;> first | (simp [eqD, py, PyData.eqv]; done) | cases hy
  | .int i, y, _, hy => by cases y <;> first | (simp [eqD, py, PyData.eqv]; done) | cases hy
  | .str z, y, _, hy => by cases y <;> first | (simp [eqD, py, PyData.eqv]; done) | cases hy
  | .tup xs, y, hx, hy => by
    cases y with
    | tup ys =>
      have := eqD_flatA xs ys hx hy
      simp only [eqD, py, PyData.eqv, D.tup.injEq]
      exact this
    | bl b => cases hy
    | ref a => cases hy
    | ty n => cases hy
    | obj C n q => cases hy
    | dK a b => cases hy
    | dT a b => cases hy
    | _ => simp [eqD, py, PyData.eqv]
  | .lst xs, y, hx, hy => by
    cases y with
    | lst ys =>
      have := eqD_flatA xs ys hx hy
      simp only [eqD, py, PyData.eqv, D.lst.injEq]
      exact this
    | bl b => cases hy
    | ref a => cases hy
    | ty n => cases hy
    | obj C n q => cases hy
    | dK a b => cases hy
    | dT a b => cases hy
    | _ => simp [eqD, py, PyData.eqv]
theorem eqD_flatA : ∀ (xs ys : List D), flatAll xs = true → flatAll ys = true → (PyData.eqvAll (pyAll xs) (pyAll ys) = true ↔ xs = ys)
  | [], [], _, _ => by simp [pyAll, PyData.eqvAll]
  | [], y :: ys, _, _ => by simp [pyAll, PyData.eqvAll]
  | x :: xs, [], _, _ => by simp [pyAll, PyData.eqvAll]
  | x :: xs, y :: ys, hx, hy => by
    obtain ⟨h1, h2⟩ := Bool.and_eq_true_iff.mp hx
    obtain ⟨g1, g2⟩ := Bool.and_eq_true_iff.mp hy
    have a := eqD_flat x y h1 g1
    have b := eqD_flatA xs ys h2 g2
    unfold eqD at a
    simp only [pyAll, PyData.eqvAll, Bool.and_eq_true, List.cons.injEq, a, b]
end
theorem eqD_of {x y : D} (hx : flatD x = true) (hy : flatD y = true) {b : Bool} (h : b = true ↔ x = y) : eqD x y = b := by
  rw [Bool.eq_iff_iff, eqD_flat x y hx hy, h]
theorem flatAll_iff : ∀ {ds : List D}, flatAll ds = true ↔ ∀ d ∈ ds, flatD d = true
  | [] => by simp [flatAll]
  | d :: ds => by rw [flatAll, Bool.and_eq_true, flatAll_iff (ds := ds)]; simp
theorem flat_cell {c : C3} : flatD (cD c) = true := rfl
theorem flat_cellsT {cs : List C3} : flatD (.tup (cs.map cD)) = true := flatAll_iff.mpr fun d hd => by obtain ⟨c, _, rfl⟩ := List.mem_map.mp hd; rfl
theorem flat_cellsL {cs : List C3} : flatD (.lst (cs.map cD)) = true := flatAll_iff.mpr fun d hd => by obtain ⟨c, _, rfl⟩ := List.mem_map.mp hd; rfl
theorem flat_strsT {ss : List Str} : flatD (.tup (ss.map D.str)) = true := flatAll_iff.mpr fun d hd => by obtain ⟨c, _, rfl⟩ := List.mem_map.mp hd; rfl
theorem flat_strsL {ss : List Str} : flatD (.lst (ss.map D.str)) = true := flatAll_iff.mpr fun d hd => by obtain ⟨c, _, rfl⟩ := List.mem_map.mp hd; rfl
theorem flat_pc {p : Piece} : flatD (pcD p) = true := by
  show (true && (flatD (.tup (p.2.map cD)) && true)) = true
  rw [flat_cellsT]; rfl
theorem flat_pcs {ps : List Piece} : flatD (.lst (ps.map pcD)) = true := flatAll_iff.mpr fun d hd => by obtain ⟨c, _, rfl⟩ := List.mem_map.mp hd; exact flat_pc
/-- == and != of any two values that can be compared -/
theorem eq_do {x y : D} {S : Sto} {Q : DQ} (hx : okE x = true) (hy : okE y = true) (q : Q (.bl (eqD x y)) S) : eqP x y S Q := by
  have s1 : ∀ a b : Str, eqD (.str a) (.str b) = decide (a = b) := fun a b => eqD_of rfl rfl (by simp)
  have s2 : ∀ a b : Int, eqD (.int a) (.int b) = decide (a = b) := fun a b => eqD_of rfl rfl (by simp)
  have s3 : ∀ a b : Bool, eqD (.bl a) (.bl b) = decide (a = b) := fun a b => by cases a <;> cases b <;> rfl
  unfold eqP
  split
  · rw [← s1]; exact q
  · rw [← s2]; exact q
  · rw [← s3]; exact q
  · exact ⟨hx, hy, q⟩
theorem ne_do {x y : D} {S : Sto} {Q : DQ} (hx : okE x = true) (hy : okE y = true) (q : Q (.bl (!eqD x y)) S) : neP x y S Q := by
  have s1 : ∀ a b : Str, eqD (.str a) (.str b) = decide (a = b) := fun a b => eqD_of rfl rfl (by simp)
  have s2 : ∀ a b : Int, eqD (.int a) (.int b) = decide (a = b) := fun a b => eqD_of rfl rfl (by simp)
  have s3 : ∀ a b : Bool, eqD (.bl a) (.bl b) = decide (a = b) := fun a b => by cases a <;> cases b <;> rfl
  unfold neP
  split
  · rw [← s1]; exact q
  · rw [← s2]; exact q
  · rw [← s3]; exact q
  · exact ⟨hx, hy, q⟩
theorem sz_0 : (0 ≤ sizeLine) = True := eq_true (szL (by decide))
theorem sz_1 : (1 ≤ sizeLine) = True := eq_true (szL (by decide))
theorem sz_2 : (2 ≤ sizeLine) = True := eq_true (szL (by decide))
theorem sz_3 : (3 ≤ sizeLine) = True := eq_true (szL (by decide))
theorem sz_4 : (4 ≤ sizeLine) = True := eq_true (szL (by decide))
theorem sz_5 : (5 ≤ sizeLine) = True := eq_true (szL (by decide))
theorem sz_6 : (6 ≤ sizeLine) = True := eq_true (szL (by decide))
theorem sz_7 : (7 ≤ sizeLine) = True := eq_true (szL (by decide))
theorem sz_8 : (8 ≤ sizeLine) = True := eq_true (szL (by decide))
theorem sz_9 : (9 ≤ sizeLine) = True := eq_true (szL (by decide))
theorem sz_10 : (10 ≤ sizeLine) = True := eq_true (szL (by decide))
theorem sz_11 : (11 ≤ sizeLine) = True := eq_true (szL (by decide))
theorem sz_12 : (12 ≤ sizeLine) = True := eq_true (szL (by decide))
theorem sz_13 : (13 ≤ sizeLine) = True := eq_true (szL (by decide))
theorem sz_14 : (14 ≤ sizeLine) = True := eq_true (szL (by decide))
theorem sz_15 : (15 ≤ sizeLine) = True := eq_true (szL (by decide))
theorem sz_16 : (16 ≤ sizeLine) = True := eq_true (szL (by decide))
theorem sz_17 : (17 ≤ sizeLine) = True := eq_true (szL (by decide))
theorem sz_18 : (18 ≤ sizeLine) = True := eq_true (szL (by decide))
theorem sz_19 : (19 ≤ sizeLine) = True := eq_true (szL (by decide))
theorem sz_20 : (20 ≤ sizeLine) = True := eq_true (szL (by decide))
theorem sz_21 : (21 ≤ sizeLine) = True := eq_true (szL (by decide))
theorem sz_22 : (22 ≤ sizeLine) = True := eq_true (szL (by decide))
theorem sz_23 : (23 ≤ sizeLine) = True := eq_true (szL (by decide))
theorem sz_24 : (24 ≤ sizeLine) = True := eq_true (szL (by decide))
theorem ne_ff {b : Bool} : (false != b) = b := by cases b <;> rfl
theorem ne_tt {b : Bool} : (true != b) = !b := by cases b <;> rfl
theorem dd_self {α : Type} [DecidableEq α] {x : α} : decide (x = x) = true := decide_eq_true rfl
theorem dd_ne {α : Type} [DecidableEq α] {x : α} : decide (x ≠ x) = false := decide_eq_false fun h => h rfl
/-- len of a list or tuple -/
theorem len_do {S : Sto} {d : D} {xs : List D} {Q : DQ} (h : seqOf S d = some xs) (q : Q (.int xs.length) S) : lenP [d] S Q := by
  unfold lenP
  cases d with
  | str z => cases h
  | _ => simp only [h]; exact q
theorem perm_unmap {α β : Type} (f : α → β) {l : List β} {m : List α} (p : l.Perm (m.map f)) : ∃ k : List α, l = k.map f ∧ k.Perm m := by
  have go : ∀ {a b : List β}, a.Perm b → ∀ m : List α, b = m.map f → ∃ k : List α, a = k.map f ∧ k.Perm m := by
    intro a b p
    induction p with
    | nil => intro m e; exact ⟨m, e, .refl _⟩
    | @cons x l1 l2 _ ih =>
      intro m e
      cases m with
      | nil => cases e
      | cons y m =>
        rw [List.map_cons] at e
        injection e with e1 e2
        obtain ⟨k, ek, pk⟩ := ih m e2
        exact ⟨y :: k, by rw [List.map_cons, ← ek, e1], pk.cons y⟩
    | swap x y l =>
      intro m e
      match m, e with
      | u :: v :: m, e =>
        rw [List.map_cons, List.map_cons] at e
        injection e with e1 e2
        injection e2 with e2 e3
        exact ⟨v :: u :: m, by rw [List.map_cons, List.map_cons, e1, e2, e3], .swap _ _ _⟩
    | trans _ _ ih1 ih2 =>
      intro m e
      obtain ⟨k, ek, pk⟩ := ih2 m e
      obtain ⟨k2, ek2, pk2⟩ := ih1 k ek
      exact ⟨k2, ek2, pk2.trans pk⟩
  exact go p m rfl
theorem sum_do {xs : List Int} {S : Sto} {Q : DQ} (q : Q (.int xs.sum) S) : sumP [.lst (xs.map D.int)] S Q := by
  unfold sumP
  simp only [lstOf_lst, Option.bind, intsOf_map]
  exact q
theorem sum_map {α : Type} {f : α → Int} {xs : List α} {S : Sto} {Q : DQ} (q : Q (.int (xs.map f).sum) S) : sumP [.lst (xs.map fun x => D.int (f x))] S Q := by
  have e : (xs.map fun x => D.int (f x)) = (xs.map f).map D.int := by rw [List.map_map]; rfl
  rw [e]
  exact sum_do q
theorem sum_parts {α : Type} (f : α → Int) (p : α → Bool) : ∀ xs : List α, ((xs.filter p).map f).sum + ((xs.filter fun x => !p x).map f).sum = (xs.map f).sum
  | [] => rfl
  | x :: xs => by
    have ih := sum_parts f p xs
    cases h : p x with
    | true => simp [h]; omega
    | false => simp [h]; omega
end DL
/-! Order of nested data: <, min. -/
namespace DL
open PySem PySem.Spec PyProof.Rows L2
/-! ### the order -/
abbrev dOrd : KeyOrd := listOrd itemOrd
abbrev tk (d : PyData) : List (Int ⊕ List Nat) := PySem.W.keyToks d
theorem lt_irr (d : PyData) : PySem.W.dataLt d d = false := dOrd.irrefl (tk d)
theorem lt_trans {a b c : PyData} (h1 : PySem.W.dataLt a b = true) (h2 : PySem.W.dataLt b c = true) : PySem.W.dataLt a c = true := dOrd.trans (tk a) (tk b) (tk c) h1 h2
theorem le_trans {a b c : PyData} (h1 : PySem.W.dataLt b a = false) (h2 : PySem.W.dataLt c b = false) : PySem.W.dataLt c a = false := by
  cases h : PySem.W.dataLt c a with
  | false => rfl
  | true =>
    rcases dOrd.negTrans (tk c) (tk b) (tk a) h with q | q
    · exact absurd (h2.symm.trans q) Bool.false_ne_true
    · exact absurd (h1.symm.trans q) Bool.false_ne_true
theorem lt_le {a b : PyData} (h : PySem.W.dataLt a b = true) : PySem.W.dataLt b a = false := by
  cases q : PySem.W.dataLt b a with
  | false => rfl
  | true => have := lt_trans h q; rw [lt_irr] at this; cases this
/-- the least of a list -/
theorem minD_least (x : PyData) (xs : List PyData) : (PySem.W.minD x xs = x ∨ PySem.W.minD x xs ∈ xs) ∧ PySem.W.dataLt x (PySem.W.minD x xs) = false ∧ ∀ y ∈ xs, PySem.W.dataLt y (PySem.W.minD x xs) = false := by
  unfold PySem.W.minD
  induction xs generalizing x with
  | nil => exact ⟨.inl rfl, lt_irr _, fun y h => (nomatch h)⟩
  | cons z xs ih =>
    rw [List.foldl_cons]
    cases h : PySem.W.dataLt z x with
    | true =>
      rw [if_pos rfl]
      obtain ⟨h1, h2, h3⟩ := ih z
      refine ⟨.inr ?_, le_trans h2 (lt_le h), fun y hy => ?_⟩
      · rcases h1 with e | e
        · rw [e]; exact List.mem_cons_self
        · exact List.mem_cons_of_mem _ e
      · rcases List.mem_cons.mp hy with rfl | hy
        · exact h2
        · exact h3 y hy
    | false =>
      rw [if_neg Bool.false_ne_true]
      obtain ⟨h1, h2, h3⟩ := ih x
      refine ⟨h1.imp_right fun e => List.mem_cons_of_mem _ e, h2, fun y hy => ?_⟩
      rcases List.mem_cons.mp hy with rfl | hy
      · exact le_trans h2 h
      · exact h3 y hy
/-- alike values, neither less: equal -/
theorem lt_tri {a b : PyData} (al : PySem.W.alike a b = true) (h1 : PySem.W.dataLt a b = false) (h2 : PySem.W.dataLt b a = false) : PyData.eqv a b = true := by
  have e : tk a = tk b := dOrd.total (tk a) (tk b) h1 h2
  cases h : PyData.eqv a b with
  | true => rfl
  | false =>
    exfalso
    have q := (PySem.W.toks_eqv a b al).2 h
    have q1 := q [] [.inl 0]
    have q2 := q [.inl 0] []
    rw [← q2] at q1
    have e' : PySem.W.keyToks a = PySem.W.keyToks b := e
    rw [e', PySem.W.lex_pre, PySem.W.lex_pre] at q1
    revert q1
    decide
theorem ltD_irr (x : D) : ltD x x = false := lt_irr _
theorem ltD_tri {x y : D} (hx : flatD x = true) (hy : flatD y = true) (al : PySem.W.alike (py x) (py y) = true) (h1 : ltD x y = false) (h2 : ltD y x = false) : x = y := (eqD_flat x y hx hy).mp (lt_tri al h1 h2)
/-! ### < -/
def rLtG (K : PySem.W.Frag) : R2 := fun x y H Q => ∃ da db, Dp K H x da ∧ Dp K H y db ∧ PySem.W.alike da db = true ∧ da ≠ .none ∧ min da.depth db.depth ≤ 64 ∧ Q (.bl (PySem.W.dataLt da db)) H
theorem op_ltG {X : Cx} (hu : X.A.units + 64 < cLine) : OpR X (compareOp .Lt) (rLtG X.K) := by
  intro pins s σ H x y v u Q I rx ry h
  obtain ⟨da, db, hd, he, al, ne, hz, q⟩ := h
  obtain ⟨as, r1⟩ := Dp.reads I da x v hd rx
  obtain ⟨bs, r2⟩ := Dp.reads I db y u he ry
  exact PySem.W.lt_data r1 r2 al ne (by omega) ⟨.bl _, H, I, rfl, q⟩
def ltGP : D2 := fun x y S Q => plain x = true ∧ plain y = true ∧ PySem.W.alike (py x) (py y) = true ∧ py x ≠ .none ∧ min (py x).depth (py y).depth ≤ 64 ∧ Q (.bl (ltD x y)) S
theorem opd_ltG {K : Kz} : OpD K (rLtG K.K) ltGP := by
  intro S H x y v w Qd Q R rx ry ⟨px, py', al, ne, hz, q⟩ f
  exact ⟨_, _, Rep.dp _ _ px rx, Rep.dp _ _ py' ry, al, ne, hz, f.here R (.bl _) q⟩
theorem cd_ltG {X : Cx} {B : Bs} {k : Nat} (m : Amb X.A k) : CmpD X B .Lt ltGP := ⟨_, op_ltG m.u64, opd_ltG⟩
/-! ### min -/
def rMinG (K : PySem.W.Frag) : List V → Hp → VK → Prop := fun vs H Q => ∃ (a : Addr) (xs : List V) (d : PyData) (ds : List PyData), vs = [V.ref a] ∧ SqL K H a xs ∧ DpAll K H xs (d :: ds) ∧ PySem.W.AlikeAll (d :: ds) ∧ PyData.depthAll (d :: ds) ≤ 64 ∧
  ∀ (i : Nat) (x : V) (e : PyData), xs[i]? = some x → (d :: ds)[i]? = some e → (∀ y ∈ d :: ds, PySem.W.dataLt y e = false) → Q x H
theorem dpAll_get {K : PySem.W.Frag} {H : Hp} : ∀ {xs : List V} {ds : List PyData} {i : Nat} {x : V}, DpAll K H xs ds → xs[i]? = some x → ∃ d, ds[i]? = some d ∧ Dp K H x d
  | _, _, i, x, .nil, e => by simp at e
  | _, _, 0, x, .cons a _, e => by cases e; exact ⟨_, rfl, a⟩
  | _, _, i + 1, x, .cons _ b, e => dpAll_get (i := i) b e
theorem vals_get2 : ∀ {xs : List V} {us : List Value} {i : Nat} {u : Value}, Vals xs us → us[i]? = some u → ∃ x, xs[i]? = some x ∧ RelV x u
  | _, _, i, u, .nil, e => by simp at e
  | _, _, 0, u, .cons a _, e => by cases e; exact ⟨_, rfl, a⟩
  | _, _, i + 1, u, .cons _ b, e => vals_get2 (i := i) b e
theorem cr_minG {X : Cx} {k : Nat} (m : Amb X.A k) : CallR X (.builtin "min") (rMinG X.K) := by
  intro pins s σ H vs us Q I r h
  obtain ⟨a, xs, d, ds, rfl, hs, dp, al, hz, q⟩ := h
  obtain ⟨its, rv, hl, _⟩ := I.list hs
  rw [Vals.ref1 r]
  obtain ⟨as, ra⟩ := Dp.readsAll I _ _ _ dp rv
  have hu := m.u65
  refine PySem.W.min_list_data m.room.hd hl.isList ra al (by omega) fun i v h' tk bs hv hr hk => ?_
  have hv' : its[i]? = some v := by simpa using hv
  obtain ⟨x, hx, rx⟩ := vals_get2 rv hv'
  obtain ⟨e, he, de⟩ := dpAll_get dp hx
  have J := I.kept (t' := tk) hk
  obtain ⟨cs, r2⟩ := Dp.reads J e x v de rx
  have ee : e = PySem.W.minD d ds := (PySem.Reads.unique r2 _ _ hr).1
  obtain ⟨_, m2, m3⟩ := minD_least d ds
  refine ⟨x, H, J, rx, q i x e hx he fun y hy => ?_⟩
  rw [ee]
  rcases List.mem_cons.mp hy with rfl | hy
  · exact m2
  · exact m3 y hy
/-- all alike, none of them None -/
def alikeL (xs : List D) : Prop := plainAll xs = true ∧ (∀ x ∈ xs, ∀ y ∈ xs, PySem.W.alike (py x) (py y) = true) ∧ (∀ x ∈ xs, py x ≠ .none) ∧ PyData.depthAll (pyAll xs) ≤ 64
inductive minGP (ds : List D) (S : Sto) (Q : DQ) : Prop
  | mk (d : D) (xs : List D) : ds = [d] → lstOf S d = some xs → xs ≠ [] → alikeL xs → (∀ m ∈ xs, (∀ y ∈ xs, ltD y m = false) → Q m S) → minGP ds S Q
theorem cad_minG {K : Kz} : CallD K (rMinG K.K) minGP := by
  intro S H ds vs Qd Q R r q f
  obtain ⟨d, xs, rfl, hs, ne, ⟨pl, al, nn, dz⟩, q⟩ := q
  obtain ⟨v, rfl, rv⟩ := r.single
  obtain ⟨a, us, rfl, sq, za, ra⟩ := lst_read R rv hs
  have dp := RepL.dp _ _ pl ra
  cases xs with
  | nil => exact absurd rfl ne
  | cons x xs =>
    refine ⟨a, us, py x, pyAll xs, rfl, sq, dp, ⟨fun u hu w hw => ?_, fun u hu => ?_⟩, dz, fun i u e hu he hle => ?_⟩
    · have hu : u ∈ pyAll (x :: xs) := hu
      have hw : w ∈ pyAll (x :: xs) := hw
      rw [pyAll_map] at hu hw
      obtain ⟨u', hu', rfl⟩ := List.mem_map.mp hu
      obtain ⟨w', hw', rfl⟩ := List.mem_map.mp hw
      exact al u' hu' w' hw'
    · have hu : u ∈ pyAll (x :: xs) := hu
      rw [pyAll_map] at hu
      obtain ⟨u', hu', rfl⟩ := List.mem_map.mp hu
      exact nn u' hu'
    · obtain ⟨z, hz, rz⟩ := ra.get' hu
      have he : (pyAll (x :: xs))[i]? = some e := he
      rw [pyAll_map, List.getElem?_map, hz] at he
      cases he
      refine f.here R rz (q z (List.mem_of_getElem? hz) fun y hy => ?_)
      exact hle (py y) (by show py y ∈ pyAll (x :: xs); rw [pyAll_map]; exact List.mem_map.mpr ⟨y, hy, rfl⟩)
end DL
/-! Turns of several solids: shifts and orders; forms. -/
namespace DL
open PySem PySem.Spec PyProof.Rows L2
theorem cAt_sub (o c : C3) (k : Int) : cAt (subC o c) k = cAt c k - cAt o k := by
  unfold cAt subC
  split
  · rfl
  · split <;> rfl
theorem img_sub (t : T3) (o c : C3) : imgC t (subC o c) = subC (imgC t o) (imgC t c) := by
  unfold imgC
  simp only [cAt_sub, Int.mul_sub]
  rfl
theorem minI_perm {l m : List Int} (p : l.Perm m) (ne : l ≠ []) : minI l = minI m := by
  obtain ⟨h1, h2⟩ := minI_spec ne
  exact (minI_eq (p.mem_iff.mp h1) fun x hx => h2 x (p.mem_iff.mpr hx)).symm
theorem minI_sub {l : List Int} (ne : l ≠ []) (o : Int) : minI (l.map fun x => x - o) = minI l - o := by
  obtain ⟨h1, h2⟩ := minI_spec ne
  refine minI_eq (List.mem_map.mpr ⟨_, h1, rfl⟩) fun x hx => ?_
  obtain ⟨y, hy, rfl⟩ := List.mem_map.mp hx
  have := h2 y hy
  omega
theorem loC_perm {l m : List C3} (p : l.Perm m) (ne : l ≠ []) : loC l = loC m := by
  unfold loC
  rw [minI_perm (p.map _) (by simpa using ne), minI_perm (p.map fun c => c.2.1) (by simpa using ne), minI_perm (p.map fun c => c.2.2) (by simpa using ne)]
theorem loC_sub {l : List C3} (ne : l ≠ []) (o : C3) : loC (l.map (subC o)) = subC o (loC l) := by
  have g : ∀ (f : C3 → Int) (x : Int), (l.map fun c => f c - x) = (l.map f).map fun y => y - x := fun f x => by rw [List.map_map]; rfl
  unfold loC
  simp only [List.map_map]
  have e1 : ((fun x : C3 => x.1) ∘ subC o) = fun c => c.1 - o.1 := rfl
  have e2 : ((fun x : C3 => x.2.1) ∘ subC o) = fun c => c.2.1 - o.2.1 := rfl
  have e3 : ((fun x : C3 => x.2.2) ∘ subC o) = fun c => c.2.2 - o.2.2 := rfl
  rw [e1, e2, e3, g (fun c => c.1), g (fun c => c.2.1), g (fun c => c.2.2), minI_sub (by simpa using ne), minI_sub (by simpa using ne), minI_sub (by simpa using ne)]
  rfl
theorem sub_sub (o l c : C3) : subC (subC o l) (subC o c) = subC l c := by
  unfold subC
  simp only [Prod.mk.injEq]
  omega
theorem csort_perm_eq' {l m : List C3} (p : l.Perm m) : csort l = csort m := csort_uniq (csort_srtd l) ((csort_perm l).trans p)
/-- each list of the one is that of the other moved, in any order -/
def Sims (o : C3) : List (List C3) → List (List C3) → Prop
  | [], [] => True
  | a :: as, b :: bs => b.Perm (a.map (subC o)) ∧ Sims o as bs
  | _, _ => False
theorem Sims.flat {o : C3} : ∀ {as bs : List (List C3)}, Sims o as bs → bs.flatten.Perm (as.flatten.map (subC o))
  | [], [], _ => .nil
  | a :: as, b :: bs, h => by
    rw [List.flatten_cons, List.flatten_cons, List.map_append]
    exact h.1.append h.2.flat
  | [], _ :: _, h => h.elim
  | _ :: _, [], h => h.elim
theorem Sims.img {o : C3} (t : T3) : ∀ {as bs : List (List C3)}, Sims o as bs → Sims (imgC t o) (as.map fun cs => cs.map (imgC t)) (bs.map fun cs => cs.map (imgC t))
  | [], [], _ => trivial
  | a :: as, b :: bs, h => by
    refine ⟨?_, h.2.img t⟩
    have := h.1.map (imgC t)
    rw [List.map_map] at this ⊢
    have e : (imgC t ∘ subC o) = (subC (imgC t o) ∘ imgC t) := funext fun c => img_sub t o c
    rw [e] at this
    exact this
  | [], _ :: _, h => h.elim
  | _ :: _, [], h => h.elim
theorem Sims.shift {o : C3} {as bs : List (List C3)} (h : Sims o as bs) (ne : as.flatten ≠ []) : shiftAll bs = shiftAll as := by
  have p := h.flat
  have ne2 : bs.flatten ≠ [] := fun e => by rw [e] at p; exact ne (List.map_eq_nil_iff.mp p.symm.eq_nil)
  unfold shiftAll
  rw [loC_perm p ne2, loC_sub ne]
  have go : ∀ {as bs : List (List C3)} (l : C3), Sims o as bs → (bs.map fun cs => csort (cs.map (subC (subC o l)))) = as.map fun cs => csort (cs.map (subC l)) := by
    intro as
    induction as with
    | nil => intro bs l h; cases bs with
      | nil => rfl
      | cons b bs => exact h.elim
    | cons a as ih =>
      intro bs l h
      cases bs with
      | nil => exact h.elim
      | cons b bs =>
        rw [List.map_cons, List.map_cons, ih l h.2]
        congr 1
        refine csort_perm_eq' ?_
        have := h.1.map (subC (subC o l))
        rw [List.map_map] at this
        have e : (subC (subC o l) ∘ subC o) = subC l := funext fun c => sub_sub _ _ _
        rw [e] at this
        exact this
  exact go _ h
theorem Sims.turn {o : C3} {as bs : List (List C3)} (h : Sims o as bs) (ne : as.flatten ≠ []) (t : T3) : turnAll t bs = turnAll t as := by
  unfold turnAll
  refine (h.img t).shift fun e => ne ?_
  rw [← List.map_flatten] at e
  exact List.map_eq_nil_iff.mp e
theorem sims_of {o : C3} {f : List C3 → List C3} : ∀ {as : List (List C3)}, (∀ a ∈ as, (f a).Perm (a.map (subC o))) → Sims o as (as.map f)
  | [], _ => trivial
  | a :: as, h => ⟨h a List.mem_cons_self, sims_of fun b hb => h b (List.mem_cons_of_mem _ hb)⟩
/-- the lists in another order -/
theorem shiftAll_perm {as bs : List (List C3)} (p : bs.Perm as) (ne : as.flatten ≠ []) : (shiftAll bs).Perm (shiftAll as) := by
  have pf : bs.flatten.Perm as.flatten := p.flatten
  have ne2 : bs.flatten ≠ [] := fun e => by rw [e] at pf; exact ne pf.symm.eq_nil
  unfold shiftAll
  rw [loC_perm pf ne2]
  exact p.map _
theorem turnAll_perm {as bs : List (List C3)} (p : bs.Perm as) (ne : as.flatten ≠ []) (t : T3) : (turnAll t bs).Perm (turnAll t as) := by
  unfold turnAll
  refine shiftAll_perm (p.map _) fun e => ne ?_
  rw [← List.map_flatten] at e
  exact List.map_eq_nil_iff.mp e
/-! ### solids as values -/
def slD (cs : List C3) : D := .tup (cs.map cD)
theorem flat_sl {cs : List C3} : flatD (slD cs) = true := flat_cellsT
theorem slD_inj {a b : List C3} (h : slD a = slD b) : a = b := by
  unfold slD at h
  injection h with h
  induction a generalizing b with
  | nil => cases b with
    | nil => rfl
    | cons y b => cases h
  | cons x a ih => cases b with
    | nil => cases h
    | cons y b =>
      rw [List.map_cons, List.map_cons] at h
      injection h with h1 h2
      rw [cD_inj h1, ih h2]
theorem alikeAll_of : ∀ {xs ys : List PyData}, (∀ x ∈ xs, ∀ y ∈ ys, PySem.W.alike x y = true) → PySem.W.alikeAll xs ys = true
  | [], [], _ => by simp [PySem.W.alikeAll]
  | [], _ :: _, _ => by simp [PySem.W.alikeAll]
  | _ :: _, [], _ => by simp [PySem.W.alikeAll]
  | x :: xs, y :: ys, h => by
    rw [PySem.W.alikeAll, h x List.mem_cons_self y List.mem_cons_self, alikeAll_of fun a ha b hb => h a (List.mem_cons_of_mem _ ha) b (List.mem_cons_of_mem _ hb)]
    rfl
theorem alike_tup {xs ys : List D} (h : ∀ x ∈ xs, ∀ y ∈ ys, PySem.W.alike (py x) (py y) = true) : PySem.W.alike (py (.tup xs)) (py (.tup ys)) = true := by
  show PySem.W.alike (.tuple (pyAll xs)) (.tuple (pyAll ys)) = true
  rw [PySem.W.alike]
  refine alikeAll_of fun a ha b hb => ?_
  rw [pyAll_map] at ha hb
  obtain ⟨x, hx, rfl⟩ := List.mem_map.mp ha
  obtain ⟨y, hy, rfl⟩ := List.mem_map.mp hb
  exact h x hx y hy
theorem alike_cell (a b : C3) : PySem.W.alike (py (cD a)) (py (cD b)) = true := by
  unfold cD
  simp [py, pyAll, PySem.W.alike, PySem.W.alikeAll]
theorem alike_sl (a b : List C3) : PySem.W.alike (py (slD a)) (py (slD b)) = true := alike_tup fun x hx y hy => by
  obtain ⟨c, _, rfl⟩ := List.mem_map.mp hx
  obtain ⟨d, _, rfl⟩ := List.mem_map.mp hy
  exact alike_cell c d
def fmD (css : List (List C3)) : D := .tup (css.map slD)
theorem alike_fm (a b : List (List C3)) : PySem.W.alike (py (fmD a)) (py (fmD b)) = true := alike_tup fun x hx y hy => by
  obtain ⟨c, _, rfl⟩ := List.mem_map.mp hx
  obtain ⟨d, _, rfl⟩ := List.mem_map.mp hy
  exact alike_sl c d
theorem flat_fm {css : List (List C3)} : flatD (fmD css) = true := flatAll_iff.mpr fun d hd => by obtain ⟨c, _, rfl⟩ := List.mem_map.mp hd; exact flat_sl
/-- solids in ascending order -/
def srtS (css : List (List C3)) : List (List C3) := css.mergeSort fun a b => !ltD (slD b) (slD a)
theorem srtS_D (css : List (List C3)) : sortD (css.map slD) = (srtS css).map slD := by
  unfold sortD srtS
  rw [List.map_mergeSort]
  intro a _ b _
  rfl
theorem srtS_perm (css : List (List C3)) : (srtS css).Perm css := List.mergeSort_perm _ _
theorem srt_unique {α : Type} {lt : α → α → Bool} (tri : ∀ a b, lt a b = false → lt b a = false → a = b) : ∀ {l m : List α}, l.Pairwise (fun a b => lt b a = false) → m.Pairwise (fun a b => lt b a = false) → l.Perm m → l = m
  | [], m, _, _, p => p.symm.eq_nil.symm
  | x :: l, [], _, _, p => absurd p.length_eq (by simp)
  | x :: l, y :: m, hl, hm, p => by
    have e : x = y := by
      rcases List.mem_cons.mp (p.mem_iff.mp (List.mem_cons_self (a := x) (l := l))) with e | hx
      · exact e
      · rcases List.mem_cons.mp (p.mem_iff.mpr (List.mem_cons_self (a := y) (l := m))) with e | hy
        · exact e.symm
        · exact tri _ _ ((List.pairwise_cons.mp hm).1 x hx) ((List.pairwise_cons.mp hl).1 y hy)
    subst e
    rw [srt_unique tri (List.pairwise_cons.mp hl).2 (List.pairwise_cons.mp hm).2 p.cons_inv]
theorem srtS_srtd (css : List (List C3)) : (srtS css).Pairwise fun a b => ltD (slD b) (slD a) = false := by
  have := sortD_srtd (css.map slD)
  rw [srtS_D] at this
  exact List.pairwise_map.mp this
theorem srtS_eq {a b : List (List C3)} (p : a.Perm b) : srtS a = srtS b :=
  srt_unique (lt := fun a b => ltD (slD a) (slD b)) (fun x y h1 h2 => slD_inj (ltD_tri flat_sl flat_sl (alike_sl x y) h1 h2)) (srtS_srtd a) (srtS_srtd b) ((srtS_perm a).trans (p.trans (srtS_perm b).symm))
theorem srtS_iff {a b : List (List C3)} : srtS a = srtS b ↔ a.Perm b := ⟨fun h => (srtS_perm a).symm.trans (h ▸ srtS_perm b), srtS_eq⟩
theorem fmD_inj {a b : List (List C3)} (h : fmD a = fmD b) : a = b := by
  unfold fmD at h
  injection h with h
  induction a generalizing b with
  | nil => cases b with
    | nil => rfl
    | cons y b => cases h
  | cons x a ih => cases b with
    | nil => cases h
    | cons y b =>
      rw [List.map_cons, List.map_cons] at h
      injection h with h1 h2
      rw [slD_inj h1, ih h2]
/-- the least of forms -/
def LeastF (fs : List (List (List C3))) (f : List (List C3)) : Prop := f ∈ fs ∧ ∀ g ∈ fs, ltD (fmD g) (fmD f) = false
theorem LeastF.uniq {fs gs : List (List (List C3))} {f g : List (List C3)} (hf : LeastF fs f) (hg : LeastF gs g) (e : ∀ x, x ∈ fs ↔ x ∈ gs) : f = g :=
  fmD_inj (ltD_tri flat_fm flat_fm (alike_fm f g) (hg.2 f ((e f).mp hf.1)) (hf.2 g ((e g).mpr hg.1)))
theorem alikes_sl {css : List (List C3)} (h : ∀ cs ∈ css, cs ≠ []) : alikes (css.map slD) := by
  have dep : ∀ cs : List C3, (py (slD cs)).depth ≤ 64 := fun cs => by
    rw [deep_py]
    show deepAll (cs.map cD) + 1 ≤ 64
    have : deepAll (cs.map cD) ≤ 1 := by
      induction cs with
      | nil => exact Nat.zero_le _
      | cons c cs ih => rw [List.map_cons]; exact Nat.max_le.mpr ⟨Nat.le_refl _, ih⟩
    omega
  refine ⟨plainAll_iff.mpr fun x hx => ?_, fun a ha b hb => ?_, .inl fun d hd => ?_, fun d hd => ?_⟩
  · obtain ⟨cs, _, rfl⟩ := List.mem_map.mp hx
    exact plainAll_iff.mpr fun y hy => by obtain ⟨c, _, rfl⟩ := List.mem_map.mp hy; rfl
  · obtain ⟨x, hx, rfl⟩ := List.mem_map.mp ha
    obtain ⟨y, hy, rfl⟩ := List.mem_map.mp hb
    obtain ⟨c, _, rfl⟩ := List.mem_map.mp hx
    obtain ⟨d, _, rfl⟩ := List.mem_map.mp hy
    exact alike_sl c d
  · obtain ⟨x, hx, rfl⟩ := List.mem_map.mp hd
    obtain ⟨cs, hcs, rfl⟩ := List.mem_map.mp hx
    cases cs with
    | nil => exact absurd rfl (h _ hcs)
    | cons c cs => exact ⟨_, _, rfl⟩
  · obtain ⟨cs, _, rfl⟩ := List.mem_map.mp hd
    exact dep cs
/-- sorted solids -/
theorem sort_sl {d : D} {css : List (List C3)} {S : Sto} {Q : DQ} (h : seqOf S d = some (css.map slD)) (ne : ∀ cs ∈ css, cs ≠ []) (q : Q (.lst ((srtS css).map slD)) S) : sortGP [d] S Q := by
  unfold sortGP
  simp only [h]
  rw [srtS_D]
  exact ⟨alikes_sl ne, q⟩
theorem deep_fm (css : List (List C3)) : deepD (fmD css) ≤ 3 := by
  have h1 : ∀ cs : List C3, deepAll (cs.map cD) ≤ 1 := fun cs => by
    induction cs with
    | nil => exact Nat.zero_le _
    | cons c cs ih => rw [List.map_cons]; exact Nat.max_le.mpr ⟨Nat.le_refl _, ih⟩
  have h2 : ∀ css : List (List C3), deepAll (css.map slD) ≤ 2 := fun css => by
    induction css with
    | nil => exact Nat.zero_le _
    | cons c cs ih => rw [List.map_cons]; exact Nat.max_le.mpr ⟨Nat.succ_le_succ (h1 c), ih⟩
  exact Nat.succ_le_succ (h2 css)
theorem plain_fm (css : List (List C3)) : plain (fmD css) = true := plainAll_iff.mpr fun x hx => by
  obtain ⟨cs, _, rfl⟩ := List.mem_map.mp hx
  exact plainAll_iff.mpr fun y hy => by obtain ⟨c, _, rfl⟩ := List.mem_map.mp hy; rfl
theorem min_fm {d : D} {fs : List (List (List C3))} {S : Sto} {Q : DQ} (h : lstOf S d = some (fs.map fmD)) (ne : fs ≠ []) (q : ∀ f, LeastF fs f → Q (fmD f) S) : minGP [d] S Q := by
  refine .mk d (fs.map fmD) rfl h (fun e => ne (List.map_eq_nil_iff.mp e)) ⟨plainAll_iff.mpr fun x hx => ?_, fun x hx y hy => ?_, fun x hx => ?_, ?_⟩ fun m hm hl => ?_
  · obtain ⟨f, _, rfl⟩ := List.mem_map.mp hx; exact plain_fm f
  · obtain ⟨f, _, rfl⟩ := List.mem_map.mp hx
    obtain ⟨g, _, rfl⟩ := List.mem_map.mp hy
    exact alike_fm f g
  · obtain ⟨f, _, rfl⟩ := List.mem_map.mp hx
    exact fun e => by cases e
  · have : deepAll (fs.map fmD) ≤ 3 := by
      clear h ne q
      induction fs with
      | nil => exact Nat.zero_le _
      | cons f fs ih => rw [List.map_cons]; exact Nat.max_le.mpr ⟨deep_fm f, ih⟩
    rw [deep_pyAll]; omega
  · obtain ⟨f, hf, rfl⟩ := List.mem_map.mp hm
    exact q f ⟨hf, fun g hg => hl _ (List.mem_map.mpr ⟨g, hg, rfl⟩)⟩
theorem lt_fm {f g : List (List C3)} {S : Sto} {Q : DQ} (q : Q (.bl (ltD (fmD f) (fmD g))) S) : ltGP (fmD f) (fmD g) S Q :=
  ⟨plain_fm f, plain_fm g, alike_fm f g, fun e => (by cases e), by rw [deep_py, deep_py]; have := deep_fm f; omega, q⟩
end DL
/-! Expressions that only read, told deeply settled. -/
namespace DL
open PySem PySem.Spec PyProof.Rows L2
def dReadD (m : ME) : ME := fun env S Q => ∃ env', LowED S S0 env env' ∧ m env' S0 (zRead S Q)
theorem de_readD {X : Cx} {B : Bs} {e : Expr} {m : ME} (h : ∀ B', DE X B' e m) : DE X B e (dReadD m) := by
  refine ⟨fun pins s σ H Q I ⟨env, S, Qd, st, ⟨env', lo, q⟩, f⟩ => ?_⟩
  refine (h ⟨S0, H, B.Z⟩).run pins s σ H Q I ⟨env', S0, _, ⟨(st.deep sub_none lo).env, (st.deep sub_none lo).rel, Ext.refl⟩, q, fun d S1 v H1 x1 R1 r1 q1 => ?_⟩
  have keep : ∀ a o, H a = some o → H1 a = some o ∧ S1 a = none := fun a o e => x1 a o e rfl
  have x : Ext S H S H1 := fun a o e n => ⟨(keep a o e).1, n⟩
  have R : Rel (kz X B) S H := st.rel
  have R' : Rel (kz X B) S H1 := by
    refine ⟨fun a o e => ?_, fun a z => ?_⟩
    · have p := R.get a o e
      cases o with
      | lst ds => obtain ⟨vs, q, y, r⟩ := p; exact ⟨vs, (keep _ _ q).1, y, RepL.mono R x _ _ r⟩
      | obj C ns ds => obtain ⟨dx, vs, q, y, r⟩ := p; exact ⟨dx, vs, (keep _ _ q).1, y, RepL.mono R x _ _ r⟩
      | dK ks ds => obtain ⟨vs, q, y, r⟩ := p; exact ⟨vs, (keep _ _ q).1, y, RepL.mono R x _ _ r⟩
      | dT ks ds => obtain ⟨vs, q, y, r⟩ := p; exact ⟨vs, (keep _ _ q).1, y, RepL.mono R x _ _ r⟩
      | ts Φ cs => obtain ⟨L, q, y, r⟩ := p; exact ⟨L, (keep _ _ q).1, y, fun t ht => x.tup R.fr (r t ht)⟩
    · obtain ⟨h1, h2⟩ := R.hid a z
      refine ⟨?_, h2⟩
      cases e : H a with
      | none => exact absurd e h1
      | some u => rw [(keep a u e).1]; exact fun z => nomatch z
  exact f d S v H1 x R' (flat_rep q1.1 r1) q1.2
theorem readD_do {m : ME} {env env' : DEnv} {S : Sto} {Q : DQ} (lo : LowED S S0 env env') (q : m env' S0 (zRead S Q)) : dReadD m env S Q := ⟨env', lo, q⟩
theorem lowED_same {S S' : Sto} : ∀ env : DEnv, LowED S S' env env
  | [] => .nil
  | none :: env => .gone (lowED_same env)
  | some d :: env => .keep (.same d) (lowED_same env)
/-- one slot is told lower -/
theorem lowED_set {S S' : Sto} {d d' : D} (h : LowD S S' d d') : ∀ {env : DEnv} {i : Nat}, env[i]? = some (some d) → LowED S S' env (env.set i (some d'))
  | [], i, e => by simp at e
  | x :: env, 0, e => by
    cases e
    exact .keep h (lowED_same env)
  | none :: env, i + 1, e => .gone (lowED_set h (i := i) e)
  | some y :: env, i + 1, e => .keep (.same y) (lowED_set h (i := i) e)
end DL
namespace LW
open PySem PySem.Spec PyProof.Rows L2 DL
local macro_rules
  | `(tactic| simp!) => `(tactic| simp -implicitDefEqProofs only [fill_nil, fill_cons, z_raise0, z_try, z_raise, z_raise1, z_xf, z_augS, z_augS1, z_dict0, z_setT, z_setT1, z_setT2, z_zip, z_set0, z_sadd, z_some, z_tt, z_ff, z_var, z_var1, z_c, z_cons, z_cons1, z_cons2, z_nil, z_tup, z_lst, z_lstO, zz_tup, zz_lst, zz_lstO, z_op, z_op1, z_op2, z_un, z_un1, z_test, z_test1, z_tru, z_tru1, z_tru2, truD_bl, truD_int, truD_tup, truD_lst, truD_non, truD_ref, z_and, z_and_t, z_and_f, z_or, z_or_t, z_or_f, z_not, z_not1, z_andV, z_andV_t, z_andV_f, z_orV, z_orV_t, z_orV_f, z_notV, z_notV1, z_ifE, z_ifE_t, z_ifE_f, z_next, z_seq, z_brk, z_cnt, z_drop, z_drop1, z_ret, z_retN, z_ifS, z_if_t, z_if_f, z_set, z_set1, z_asg, z_asg1, z_gName, z_gNil, z_gCons, z_gCons1, z_gTup, z_gSub, z_gSub1, z_gSub_put, z_cb, z_cb1, z_call, z_call1, z_meth, z_meth1, z_meth2, z_chain, z_ch1, z_ch2, z_ch3t, z_ch3f, z_isN, z_isN1, z_noPart, z_part, z_part1, z_sl, z_sl1, z_sl2, z_sl3, slP_tup, slP_lst, slP_ref, z_for, z_for1, z_lc, z_lc1, z_lcE, z_lcO, z_lcO1, z_lcOE, z_yes, z_wSeq, z_wSeq_tup, z_wSeq_lst, z_wStr, z_wStr1, z_rng1, zz_rng1, z_rng2, zz_rng2, z_wipe0, z_wipe1, zo_add, zo_addS, zo_addT, zo_addL, zo_sub, zo_mul, zo_fdiv, zo_mod, zo_pow, zo_neg, zo_cmp, zo_eqI, zo_eqS, zo_eqB, zo_neI, zo_neS, zo_neB, z_ix1, zo_ixT, zo_ixL, zo_ixP, zo_ixS, zo_lenS, zo_lenT, zo_lenL, zo_lenP, zo_abs, zo_int, zo_intB, zo_tupT, zo_tupL, zo_tupP, zo_lstT, zo_lstL, zo_lstOT, zo_lstOL, z_join, z_join1, DL.isNon, z_gUnl, z_lc2, z_lc2s, z_lc2O, z_lc2Os, z_lc2W, z_low, z_read1, z_aug, z_del, z_del1, z_dcS, z_lstRg, z_lstRg1, zo_max2, zo_min2, z_fld, z_setF, z_setF1, z_callM, z_callM1, z_callM2, z_make, z_make1, z_mk, z_deep, slP_str, zo_isB, zo_isNotB, z_enum, z_enum1, List.map_cons, List.map_nil, List.replicate_zero, List.replicate_succ, List.length_cons, List.length_nil, List.cons_append, List.nil_append, List.append_nil, List.getElem?_cons_zero, List.getElem?_cons_succ, List.set_cons_zero, List.set_cons_succ, Nat.reduceSub, Nat.reduceAdd, seqOf_tup, seqOf_lst, lstOf_lst, lstOf_put, seqOf_put, put_same, put_put, Option.map_some, atI_0, atI_1, atI_2, atI_3, atI_4, ixN_0, ixN_1, ixN_2, ixN_4, Nat.reduceLeDiff, Int.reduceEq, Int.reduceLT, Int.reduceLE, decide_true, decide_false, eq_self, if_true, if_false, Bool.false_eq_true, Bool.not_true, Bool.not_false, reduceIte])
  | `(tactic| simp! [$xs,*]) => `(tactic| simp -implicitDefEqProofs only [$xs,*, fill_nil, fill_cons, z_raise0, z_try, z_raise, z_raise1, z_xf, z_augS, z_augS1, z_dict0, z_setT, z_setT1, z_setT2, z_zip, z_set0, z_sadd, z_some, z_tt, z_ff, z_var, z_var1, z_c, z_cons, z_cons1, z_cons2, z_nil, z_tup, z_lst, z_lstO, zz_tup, zz_lst, zz_lstO, z_op, z_op1, z_op2, z_un, z_un1, z_test, z_test1, z_tru, z_tru1, z_tru2, truD_bl, truD_int, truD_tup, truD_lst, truD_non, truD_ref, z_and, z_and_t, z_and_f, z_or, z_or_t, z_or_f, z_not, z_not1, z_andV, z_andV_t, z_andV_f, z_orV, z_orV_t, z_orV_f, z_notV, z_notV1, z_ifE, z_ifE_t, z_ifE_f, z_next, z_seq, z_brk, z_cnt, z_drop, z_drop1, z_ret, z_retN, z_ifS, z_if_t, z_if_f, z_set, z_set1, z_asg, z_asg1, z_gName, z_gNil, z_gCons, z_gCons1, z_gTup, z_gSub, z_gSub1, z_gSub_put, z_cb, z_cb1, z_call, z_call1, z_meth, z_meth1, z_meth2, z_chain, z_ch1, z_ch2, z_ch3t, z_ch3f, z_isN, z_isN1, z_noPart, z_part, z_part1, z_sl, z_sl1, z_sl2, z_sl3, slP_tup, slP_lst, slP_ref, z_for, z_for1, z_lc, z_lc1, z_lcE, z_lcO, z_lcO1, z_lcOE, z_yes, z_wSeq, z_wSeq_tup, z_wSeq_lst, z_wStr, z_wStr1, z_rng1, zz_rng1, z_rng2, zz_rng2, z_wipe0, z_wipe1, zo_add, zo_addS, zo_addT, zo_addL, zo_sub, zo_mul, zo_fdiv, zo_mod, zo_pow, zo_neg, zo_cmp, zo_eqI, zo_eqS, zo_eqB, zo_neI, zo_neS, zo_neB, z_ix1, zo_ixT, zo_ixL, zo_ixP, zo_ixS, zo_lenS, zo_lenT, zo_lenL, zo_lenP, zo_abs, zo_int, zo_intB, zo_tupT, zo_tupL, zo_tupP, zo_lstT, zo_lstL, zo_lstOT, zo_lstOL, z_join, z_join1, DL.isNon, z_gUnl, z_lc2, z_lc2s, z_lc2O, z_lc2Os, z_lc2W, z_low, z_read1, z_aug, z_del, z_del1, z_dcS, z_lstRg, z_lstRg1, zo_max2, zo_min2, z_fld, z_setF, z_setF1, z_callM, z_callM1, z_callM2, z_make, z_make1, z_mk, z_deep, slP_str, zo_isB, zo_isNotB, z_enum, z_enum1, List.map_cons, List.map_nil, List.replicate_zero, List.replicate_succ, List.length_cons, List.length_nil, List.cons_append, List.nil_append, List.append_nil, List.getElem?_cons_zero, List.getElem?_cons_succ, List.set_cons_zero, List.set_cons_succ, Nat.reduceSub, Nat.reduceAdd, seqOf_tup, seqOf_lst, lstOf_lst, lstOf_put, seqOf_put, put_same, put_put, Option.map_some, atI_0, atI_1, atI_2, atI_3, atI_4, ixN_0, ixN_1, ixN_2, ixN_4, Nat.reduceLeDiff, Int.reduceEq, Int.reduceLT, Int.reduceLE, decide_true, decide_false, eq_self, if_true, if_false, Bool.false_eq_true, Bool.not_true, Bool.not_false, reduceIte])
  | `(tactic| simp! $l:location) => `(tactic| simp -implicitDefEqProofs only [fill_nil, fill_cons, z_raise0, z_try, z_raise, z_raise1, z_xf, z_augS, z_augS1, z_dict0, z_setT, z_setT1, z_setT2, z_zip, z_set0, z_sadd, z_some, z_tt, z_ff, z_var, z_var1, z_c, z_cons, z_cons1, z_cons2, z_nil, z_tup, z_lst, z_lstO, zz_tup, zz_lst, zz_lstO, z_op, z_op1, z_op2, z_un, z_un1, z_test, z_test1, z_tru, z_tru1, z_tru2, truD_bl, truD_int, truD_tup, truD_lst, truD_non, truD_ref, z_and, z_and_t, z_and_f, z_or, z_or_t, z_or_f, z_not, z_not1, z_andV, z_andV_t, z_andV_f, z_orV, z_orV_t, z_orV_f, z_notV, z_notV1, z_ifE, z_ifE_t, z_ifE_f, z_next, z_seq, z_brk, z_cnt, z_drop, z_drop1, z_ret, z_retN, z_ifS, z_if_t, z_if_f, z_set, z_set1, z_asg, z_asg1, z_gName, z_gNil, z_gCons, z_gCons1, z_gTup, z_gSub, z_gSub1, z_gSub_put, z_cb, z_cb1, z_call, z_call1, z_meth, z_meth1, z_meth2, z_chain, z_ch1, z_ch2, z_ch3t, z_ch3f, z_isN, z_isN1, z_noPart, z_part, z_part1, z_sl, z_sl1, z_sl2, z_sl3, slP_tup, slP_lst, slP_ref, z_for, z_for1, z_lc, z_lc1, z_lcE, z_lcO, z_lcO1, z_lcOE, z_yes, z_wSeq, z_wSeq_tup, z_wSeq_lst, z_wStr, z_wStr1, z_rng1, zz_rng1, z_rng2, zz_rng2, z_wipe0, z_wipe1, zo_add, zo_addS, zo_addT, zo_addL, zo_sub, zo_mul, zo_fdiv, zo_mod, zo_pow, zo_neg, zo_cmp, zo_eqI, zo_eqS, zo_eqB, zo_neI, zo_neS, zo_neB, z_ix1, zo_ixT, zo_ixL, zo_ixP, zo_ixS, zo_lenS, zo_lenT, zo_lenL, zo_lenP, zo_abs, zo_int, zo_intB, zo_tupT, zo_tupL, zo_tupP, zo_lstT, zo_lstL, zo_lstOT, zo_lstOL, z_join, z_join1, DL.isNon, z_gUnl, z_lc2, z_lc2s, z_lc2O, z_lc2Os, z_lc2W, z_low, z_read1, z_aug, z_del, z_del1, z_dcS, z_lstRg, z_lstRg1, zo_max2, zo_min2, z_fld, z_setF, z_setF1, z_callM, z_callM1, z_callM2, z_make, z_make1, z_mk, z_deep, slP_str, zo_isB, zo_isNotB, z_enum, z_enum1, List.map_cons, List.map_nil, List.replicate_zero, List.replicate_succ, List.length_cons, List.length_nil, List.cons_append, List.nil_append, List.append_nil, List.getElem?_cons_zero, List.getElem?_cons_succ, List.set_cons_zero, List.set_cons_succ, Nat.reduceSub, Nat.reduceAdd, seqOf_tup, seqOf_lst, lstOf_lst, lstOf_put, seqOf_put, put_same, put_put, Option.map_some, atI_0, atI_1, atI_2, atI_3, atI_4, ixN_0, ixN_1, ixN_2, ixN_4, Nat.reduceLeDiff, Int.reduceEq, Int.reduceLT, Int.reduceLE, decide_true, decide_false, eq_self, if_true, if_false, Bool.false_eq_true, Bool.not_true, Bool.not_false, reduceIte] $l)
  | `(tactic| simp! [$xs,*] $l:location) => `(tactic| simp -implicitDefEqProofs only [$xs,*, fill_nil, fill_cons, z_raise0, z_try, z_raise, z_raise1, z_xf, z_augS, z_augS1, z_dict0, z_setT, z_setT1, z_setT2, z_zip, z_set0, z_sadd, z_some, z_tt, z_ff, z_var, z_var1, z_c, z_cons, z_cons1, z_cons2, z_nil, z_tup, z_lst, z_lstO, zz_tup, zz_lst, zz_lstO, z_op, z_op1, z_op2, z_un, z_un1, z_test, z_test1, z_tru, z_tru1, z_tru2, truD_bl, truD_int, truD_tup, truD_lst, truD_non, truD_ref, z_and, z_and_t, z_and_f, z_or, z_or_t, z_or_f, z_not, z_not1, z_andV, z_andV_t, z_andV_f, z_orV, z_orV_t, z_orV_f, z_notV, z_notV1, z_ifE, z_ifE_t, z_ifE_f, z_next, z_seq, z_brk, z_cnt, z_drop, z_drop1, z_ret, z_retN, z_ifS, z_if_t, z_if_f, z_set, z_set1, z_asg, z_asg1, z_gName, z_gNil, z_gCons, z_gCons1, z_gTup, z_gSub, z_gSub1, z_gSub_put, z_cb, z_cb1, z_call, z_call1, z_meth, z_meth1, z_meth2, z_chain, z_ch1, z_ch2, z_ch3t, z_ch3f, z_isN, z_isN1, z_noPart, z_part, z_part1, z_sl, z_sl1, z_sl2, z_sl3, slP_tup, slP_lst, slP_ref, z_for, z_for1, z_lc, z_lc1, z_lcE, z_lcO, z_lcO1, z_lcOE, z_yes, z_wSeq, z_wSeq_tup, z_wSeq_lst, z_wStr, z_wStr1, z_rng1, zz_rng1, z_rng2, zz_rng2, z_wipe0, z_wipe1, zo_add, zo_addS, zo_addT, zo_addL, zo_sub, zo_mul, zo_fdiv, zo_mod, zo_pow, zo_neg, zo_cmp, zo_eqI, zo_eqS, zo_eqB, zo_neI, zo_neS, zo_neB, z_ix1, zo_ixT, zo_ixL, zo_ixP, zo_ixS, zo_lenS, zo_lenT, zo_lenL, zo_lenP, zo_abs, zo_int, zo_intB, zo_tupT, zo_tupL, zo_tupP, zo_lstT, zo_lstL, zo_lstOT, zo_lstOL, z_join, z_join1, DL.isNon, z_gUnl, z_lc2, z_lc2s, z_lc2O, z_lc2Os, z_lc2W, z_low, z_read1, z_aug, z_del, z_del1, z_dcS, z_lstRg, z_lstRg1, zo_max2, zo_min2, z_fld, z_setF, z_setF1, z_callM, z_callM1, z_callM2, z_make, z_make1, z_mk, z_deep, slP_str, zo_isB, zo_isNotB, z_enum, z_enum1, List.map_cons, List.map_nil, List.replicate_zero, List.replicate_succ, List.length_cons, List.length_nil, List.cons_append, List.nil_append, List.append_nil, List.getElem?_cons_zero, List.getElem?_cons_succ, List.set_cons_zero, List.set_cons_succ, Nat.reduceSub, Nat.reduceAdd, seqOf_tup, seqOf_lst, lstOf_lst, lstOf_put, seqOf_put, put_same, put_put, Option.map_some, atI_0, atI_1, atI_2, atI_3, atI_4, ixN_0, ixN_1, ixN_2, ixN_4, Nat.reduceLeDiff, Int.reduceEq, Int.reduceLT, Int.reduceLE, decide_true, decide_false, eq_self, if_true, if_false, Bool.false_eq_true, Bool.not_true, Bool.not_false, reduceIte] $l)
local macro_rules
  | `(tactic| dsimp!) => `(tactic| simp -implicitDefEqProofs only [fill_nil, fill_cons, z_raise0, z_try, z_raise, z_raise1, z_xf, z_augS, z_augS1, z_dict0, z_setT, z_setT1, z_setT2, z_zip, z_set0, z_sadd, z_some, z_tt, z_ff, z_var, z_var1, z_c, z_cons, z_cons1, z_cons2, z_nil, z_tup, z_lst, z_lstO, zz_tup, zz_lst, zz_lstO, z_op, z_op1, z_op2, z_un, z_un1, z_test, z_test1, z_tru, z_tru1, z_tru2, truD_bl, truD_int, truD_tup, truD_lst, truD_non, truD_ref, z_and, z_and_t, z_and_f, z_or, z_or_t, z_or_f, z_not, z_not1, z_andV, z_andV_t, z_andV_f, z_orV, z_orV_t, z_orV_f, z_notV, z_notV1, z_ifE, z_ifE_t, z_ifE_f, z_next, z_seq, z_brk, z_cnt, z_drop, z_drop1, z_ret, z_retN, z_ifS, z_if_t, z_if_f, z_set, z_set1, z_asg, z_asg1, z_gName, z_gNil, z_gCons, z_gCons1, z_gTup, z_gSub, z_gSub1, z_gSub_put, z_cb, z_cb1, z_call, z_call1, z_meth, z_meth1, z_meth2, z_chain, z_ch1, z_ch2, z_ch3t, z_ch3f, z_isN, z_isN1, z_noPart, z_part, z_part1, z_sl, z_sl1, z_sl2, z_sl3, slP_tup, slP_lst, slP_ref, z_for, z_for1, z_lc, z_lc1, z_lcE, z_lcO, z_lcO1, z_lcOE, z_yes, z_wSeq, z_wSeq_tup, z_wSeq_lst, z_wStr, z_wStr1, z_rng1, zz_rng1, z_rng2, zz_rng2, z_wipe0, z_wipe1, zo_add, zo_addS, zo_addT, zo_addL, zo_sub, zo_mul, zo_fdiv, zo_mod, zo_pow, zo_neg, zo_cmp, zo_eqI, zo_eqS, zo_eqB, zo_neI, zo_neS, zo_neB, z_ix1, zo_ixT, zo_ixL, zo_ixP, zo_ixS, zo_lenS, zo_lenT, zo_lenL, zo_lenP, zo_abs, zo_int, zo_intB, zo_tupT, zo_tupL, zo_tupP, zo_lstT, zo_lstL, zo_lstOT, zo_lstOL, z_join, z_join1, DL.isNon, z_gUnl, z_lc2, z_lc2s, z_lc2O, z_lc2Os, z_lc2W, z_low, z_read1, z_aug, z_del, z_del1, z_dcS, z_lstRg, z_lstRg1, zo_max2, zo_min2, z_fld, z_setF, z_setF1, z_callM, z_callM1, z_callM2, z_make, z_make1, z_mk, z_deep, slP_str, zo_isB, zo_isNotB, z_enum, z_enum1, List.map_cons, List.map_nil, List.replicate_zero, List.replicate_succ, List.length_cons, List.length_nil, List.cons_append, List.nil_append, List.append_nil, List.getElem?_cons_zero, List.getElem?_cons_succ, List.set_cons_zero, List.set_cons_succ, Nat.reduceSub, Nat.reduceAdd, seqOf_tup, seqOf_lst, lstOf_lst, lstOf_put, seqOf_put, put_same, put_put, Option.map_some, atI_0, atI_1, atI_2, atI_3, atI_4, ixN_0, ixN_1, ixN_2, ixN_4, Nat.reduceLeDiff, Int.reduceEq, Int.reduceLT, Int.reduceLE, decide_true, decide_false, eq_self, if_true, if_false, Bool.false_eq_true, Bool.not_true, Bool.not_false, reduceIte, Int.reducePow, Int.reduceNeg, true_and, ne_ff, ne_tt, dd_self, dd_ne, Int.zero_add, List.length_map, sz_0, sz_1, sz_2, sz_3, sz_4, sz_5, sz_6, sz_7, sz_8, sz_9, sz_10, sz_11, sz_12, sz_13, sz_14, sz_15, sz_16, sz_17, sz_18, sz_19, sz_20, sz_21, sz_22, sz_23, sz_24])
  | `(tactic| dsimp! [$xs,*]) => `(tactic| simp -implicitDefEqProofs only [$xs,*, fill_nil, fill_cons, z_raise0, z_try, z_raise, z_raise1, z_xf, z_augS, z_augS1, z_dict0, z_setT, z_setT1, z_setT2, z_zip, z_set0, z_sadd, z_some, z_tt, z_ff, z_var, z_var1, z_c, z_cons, z_cons1, z_cons2, z_nil, z_tup, z_lst, z_lstO, zz_tup, zz_lst, zz_lstO, z_op, z_op1, z_op2, z_un, z_un1, z_test, z_test1, z_tru, z_tru1, z_tru2, truD_bl, truD_int, truD_tup, truD_lst, truD_non, truD_ref, z_and, z_and_t, z_and_f, z_or, z_or_t, z_or_f, z_not, z_not1, z_andV, z_andV_t, z_andV_f, z_orV, z_orV_t, z_orV_f, z_notV, z_notV1, z_ifE, z_ifE_t, z_ifE_f, z_next, z_seq, z_brk, z_cnt, z_drop, z_drop1, z_ret, z_retN, z_ifS, z_if_t, z_if_f, z_set, z_set1, z_asg, z_asg1, z_gName, z_gNil, z_gCons, z_gCons1, z_gTup, z_gSub, z_gSub1, z_gSub_put, z_cb, z_cb1, z_call, z_call1, z_meth, z_meth1, z_meth2, z_chain, z_ch1, z_ch2, z_ch3t, z_ch3f, z_isN, z_isN1, z_noPart, z_part, z_part1, z_sl, z_sl1, z_sl2, z_sl3, slP_tup, slP_lst, slP_ref, z_for, z_for1, z_lc, z_lc1, z_lcE, z_lcO, z_lcO1, z_lcOE, z_yes, z_wSeq, z_wSeq_tup, z_wSeq_lst, z_wStr, z_wStr1, z_rng1, zz_rng1, z_rng2, zz_rng2, z_wipe0, z_wipe1, zo_add, zo_addS, zo_addT, zo_addL, zo_sub, zo_mul, zo_fdiv, zo_mod, zo_pow, zo_neg, zo_cmp, zo_eqI, zo_eqS, zo_eqB, zo_neI, zo_neS, zo_neB, z_ix1, zo_ixT, zo_ixL, zo_ixP, zo_ixS, zo_lenS, zo_lenT, zo_lenL, zo_lenP, zo_abs, zo_int, zo_intB, zo_tupT, zo_tupL, zo_tupP, zo_lstT, zo_lstL, zo_lstOT, zo_lstOL, z_join, z_join1, DL.isNon, z_gUnl, z_lc2, z_lc2s, z_lc2O, z_lc2Os, z_lc2W, z_low, z_read1, z_aug, z_del, z_del1, z_dcS, z_lstRg, z_lstRg1, zo_max2, zo_min2, z_fld, z_setF, z_setF1, z_callM, z_callM1, z_callM2, z_make, z_make1, z_mk, z_deep, slP_str, zo_isB, zo_isNotB, z_enum, z_enum1, List.map_cons, List.map_nil, List.replicate_zero, List.replicate_succ, List.length_cons, List.length_nil, List.cons_append, List.nil_append, List.append_nil, List.getElem?_cons_zero, List.getElem?_cons_succ, List.set_cons_zero, List.set_cons_succ, Nat.reduceSub, Nat.reduceAdd, seqOf_tup, seqOf_lst, lstOf_lst, lstOf_put, seqOf_put, put_same, put_put, Option.map_some, atI_0, atI_1, atI_2, atI_3, atI_4, ixN_0, ixN_1, ixN_2, ixN_4, Nat.reduceLeDiff, Int.reduceEq, Int.reduceLT, Int.reduceLE, decide_true, decide_false, eq_self, if_true, if_false, Bool.false_eq_true, Bool.not_true, Bool.not_false, reduceIte, Int.reducePow, Int.reduceNeg, true_and, ne_ff, ne_tt, dd_self, dd_ne, Int.zero_add, List.length_map, sz_0, sz_1, sz_2, sz_3, sz_4, sz_5, sz_6, sz_7, sz_8, sz_9, sz_10, sz_11, sz_12, sz_13, sz_14, sz_15, sz_16, sz_17, sz_18, sz_19, sz_20, sz_21, sz_22, sz_23, sz_24])
  | `(tactic| dsimp! $l:location) => `(tactic| simp -implicitDefEqProofs only [fill_nil, fill_cons, z_raise0, z_try, z_raise, z_raise1, z_xf, z_augS, z_augS1, z_dict0, z_setT, z_setT1, z_setT2, z_zip, z_set0, z_sadd, z_some, z_tt, z_ff, z_var, z_var1, z_c, z_cons, z_cons1, z_cons2, z_nil, z_tup, z_lst, z_lstO, zz_tup, zz_lst, zz_lstO, z_op, z_op1, z_op2, z_un, z_un1, z_test, z_test1, z_tru, z_tru1, z_tru2, truD_bl, truD_int, truD_tup, truD_lst, truD_non, truD_ref, z_and, z_and_t, z_and_f, z_or, z_or_t, z_or_f, z_not, z_not1, z_andV, z_andV_t, z_andV_f, z_orV, z_orV_t, z_orV_f, z_notV, z_notV1, z_ifE, z_ifE_t, z_ifE_f, z_next, z_seq, z_brk, z_cnt, z_drop, z_drop1, z_ret, z_retN, z_ifS, z_if_t, z_if_f, z_set, z_set1, z_asg, z_asg1, z_gName, z_gNil, z_gCons, z_gCons1, z_gTup, z_gSub, z_gSub1, z_gSub_put, z_cb, z_cb1, z_call, z_call1, z_meth, z_meth1, z_meth2, z_chain, z_ch1, z_ch2, z_ch3t, z_ch3f, z_isN, z_isN1, z_noPart, z_part, z_part1, z_sl, z_sl1, z_sl2, z_sl3, slP_tup, slP_lst, slP_ref, z_for, z_for1, z_lc, z_lc1, z_lcE, z_lcO, z_lcO1, z_lcOE, z_yes, z_wSeq, z_wSeq_tup, z_wSeq_lst, z_wStr, z_wStr1, z_rng1, zz_rng1, z_rng2, zz_rng2, z_wipe0, z_wipe1, zo_add, zo_addS, zo_addT, zo_addL, zo_sub, zo_mul, zo_fdiv, zo_mod, zo_pow, zo_neg, zo_cmp, zo_eqI, zo_eqS, zo_eqB, zo_neI, zo_neS, zo_neB, z_ix1, zo_ixT, zo_ixL, zo_ixP, zo_ixS, zo_lenS, zo_lenT, zo_lenL, zo_lenP, zo_abs, zo_int, zo_intB, zo_tupT, zo_tupL, zo_tupP, zo_lstT, zo_lstL, zo_lstOT, zo_lstOL, z_join, z_join1, DL.isNon, z_gUnl, z_lc2, z_lc2s, z_lc2O, z_lc2Os, z_lc2W, z_low, z_read1, z_aug, z_del, z_del1, z_dcS, z_lstRg, z_lstRg1, zo_max2, zo_min2, z_fld, z_setF, z_setF1, z_callM, z_callM1, z_callM2, z_make, z_make1, z_mk, z_deep, slP_str, zo_isB, zo_isNotB, z_enum, z_enum1, List.map_cons, List.map_nil, List.replicate_zero, List.replicate_succ, List.length_cons, List.length_nil, List.cons_append, List.nil_append, List.append_nil, List.getElem?_cons_zero, List.getElem?_cons_succ, List.set_cons_zero, List.set_cons_succ, Nat.reduceSub, Nat.reduceAdd, seqOf_tup, seqOf_lst, lstOf_lst, lstOf_put, seqOf_put, put_same, put_put, Option.map_some, atI_0, atI_1, atI_2, atI_3, atI_4, ixN_0, ixN_1, ixN_2, ixN_4, Nat.reduceLeDiff, Int.reduceEq, Int.reduceLT, Int.reduceLE, decide_true, decide_false, eq_self, if_true, if_false, Bool.false_eq_true, Bool.not_true, Bool.not_false, reduceIte, Int.reducePow, Int.reduceNeg, true_and, ne_ff, ne_tt, dd_self, dd_ne, Int.zero_add, List.length_map, sz_0, sz_1, sz_2, sz_3, sz_4, sz_5, sz_6, sz_7, sz_8, sz_9, sz_10, sz_11, sz_12, sz_13, sz_14, sz_15, sz_16, sz_17, sz_18, sz_19, sz_20, sz_21, sz_22, sz_23, sz_24] $l)
  | `(tactic| dsimp! [$xs,*] $l:location) => `(tactic| simp -implicitDefEqProofs only [$xs,*, fill_nil, fill_cons, z_raise0, z_try, z_raise, z_raise1, z_xf, z_augS, z_augS1, z_dict0, z_setT, z_setT1, z_setT2, z_zip, z_set0, z_sadd, z_some, z_tt, z_ff, z_var, z_var1, z_c, z_cons, z_cons1, z_cons2, z_nil, z_tup, z_lst, z_lstO, zz_tup, zz_lst, zz_lstO, z_op, z_op1, z_op2, z_un, z_un1, z_test, z_test1, z_tru, z_tru1, z_tru2, truD_bl, truD_int, truD_tup, truD_lst, truD_non, truD_ref, z_and, z_and_t, z_and_f, z_or, z_or_t, z_or_f, z_not, z_not1, z_andV, z_andV_t, z_andV_f, z_orV, z_orV_t, z_orV_f, z_notV, z_notV1, z_ifE, z_ifE_t, z_ifE_f, z_next, z_seq, z_brk, z_cnt, z_drop, z_drop1, z_ret, z_retN, z_ifS, z_if_t, z_if_f, z_set, z_set1, z_asg, z_asg1, z_gName, z_gNil, z_gCons, z_gCons1, z_gTup, z_gSub, z_gSub1, z_gSub_put, z_cb, z_cb1, z_call, z_call1, z_meth, z_meth1, z_meth2, z_chain, z_ch1, z_ch2, z_ch3t, z_ch3f, z_isN, z_isN1, z_noPart, z_part, z_part1, z_sl, z_sl1, z_sl2, z_sl3, slP_tup, slP_lst, slP_ref, z_for, z_for1, z_lc, z_lc1, z_lcE, z_lcO, z_lcO1, z_lcOE, z_yes, z_wSeq, z_wSeq_tup, z_wSeq_lst, z_wStr, z_wStr1, z_rng1, zz_rng1, z_rng2, zz_rng2, z_wipe0, z_wipe1, zo_add, zo_addS, zo_addT, zo_addL, zo_sub, zo_mul, zo_fdiv, zo_mod, zo_pow, zo_neg, zo_cmp, zo_eqI, zo_eqS, zo_eqB, zo_neI, zo_neS, zo_neB, z_ix1, zo_ixT, zo_ixL, zo_ixP, zo_ixS, zo_lenS, zo_lenT, zo_lenL, zo_lenP, zo_abs, zo_int, zo_intB, zo_tupT, zo_tupL, zo_tupP, zo_lstT, zo_lstL, zo_lstOT, zo_lstOL, z_join, z_join1, DL.isNon, z_gUnl, z_lc2, z_lc2s, z_lc2O, z_lc2Os, z_lc2W, z_low, z_read1, z_aug, z_del, z_del1, z_dcS, z_lstRg, z_lstRg1, zo_max2, zo_min2, z_fld, z_setF, z_setF1, z_callM, z_callM1, z_callM2, z_make, z_make1, z_mk, z_deep, slP_str, zo_isB, zo_isNotB, z_enum, z_enum1, List.map_cons, List.map_nil, List.replicate_zero, List.replicate_succ, List.length_cons, List.length_nil, List.cons_append, List.nil_append, List.append_nil, List.getElem?_cons_zero, List.getElem?_cons_succ, List.set_cons_zero, List.set_cons_succ, Nat.reduceSub, Nat.reduceAdd, seqOf_tup, seqOf_lst, lstOf_lst, lstOf_put, seqOf_put, put_same, put_put, Option.map_some, atI_0, atI_1, atI_2, atI_3, atI_4, ixN_0, ixN_1, ixN_2, ixN_4, Nat.reduceLeDiff, Int.reduceEq, Int.reduceLT, Int.reduceLE, decide_true, decide_false, eq_self, if_true, if_false, Bool.false_eq_true, Bool.not_true, Bool.not_false, reduceIte, Int.reducePow, Int.reduceNeg, true_and, ne_ff, ne_tt, dd_self, dd_ne, Int.zero_add, List.length_map, sz_0, sz_1, sz_2, sz_3, sz_4, sz_5, sz_6, sz_7, sz_8, sz_9, sz_10, sz_11, sz_12, sz_13, sz_14, sz_15, sz_16, sz_17, sz_18, sz_19, sz_20, sz_21, sz_22, sz_23, sz_24] $l)
def topS (i : Nat) : Stmt := PySem.Challenge.pw_takenapart_k18_whole_likeness.main.body.getD i (.Pass ⟨0, 0, 0, 0⟩)
abbrev s_is_integer : Stmt := topS 3
abbrev N_is_integer : List Str := ["value"]
theorem sc_is_integer : FnScope N_is_integer ["value"] (defScope s_is_integer) := ⟨rfl, rfl, rfl, by decide +kernel, rfl, by decide +kernel, by decide +kernel⟩
abbrev s_is_cell : Stmt := topS 4
abbrev N_is_cell : List Str := ["value", "item"]
theorem sc_is_cell : FnScope N_is_cell ["value"] (defScope s_is_cell) := ⟨rfl, rfl, rfl, by decide +kernel, rfl, by decide +kernel, by decide +kernel⟩
abbrev s_beside : Stmt := topS 5
abbrev N_beside : List Str := ["cell", "x", "y", "z"]
theorem sc_beside : FnScope N_beside ["cell"] (defScope s_beside) := ⟨rfl, rfl, rfl, by decide +kernel, rfl, by decide +kernel, by decide +kernel⟩
abbrev s_hang_together : Stmt := topS 6
abbrev N_hang_together : List Str := ["cells", "found", "left", "place", "other", "cell"]
theorem sc_hang_together : FnScope N_hang_together ["cells"] (defScope s_hang_together) := ⟨rfl, rfl, rfl, by decide +kernel, rfl, by decide +kernel, by decide +kernel⟩
abbrev s_is_solid : Stmt := topS 7
abbrev N_is_solid : List Str := ["value", "cell", "k"]
theorem sc_is_solid : FnScope N_is_solid ["value"] (defScope s_is_solid) := ⟨rfl, rfl, rfl, by decide +kernel, rfl, by decide +kernel, by decide +kernel⟩
abbrev s_extents : Stmt := topS 8
abbrev N_extents : List Str := ["cells", "least", "most", "axis", "cell"]
theorem sc_extents : FnScope N_extents ["cells"] (defScope s_extents) := ⟨rfl, rfl, rfl, by decide +kernel, rfl, by decide +kernel, by decide +kernel⟩
abbrev s_moved : Stmt := topS 9
abbrev N_moved : List Str := ["cells", "offset", "cell", "axis"]
theorem sc_moved : FnScope N_moved ["cells", "offset"] (defScope s_moved) := ⟨rfl, rfl, rfl, by decide +kernel, rfl, by decide +kernel, by decide +kernel⟩
abbrev s_image_of : Stmt := topS 13
abbrev N_image_of : List Str := ["cell", "turn", "axis", "sign"]
theorem sc_image_of : FnScope N_image_of ["cell", "turn"] (defScope s_image_of) := ⟨rfl, rfl, rfl, by decide +kernel, rfl, by decide +kernel, by decide +kernel⟩
abbrev s_turned_all : Stmt := topS 14
abbrev N_turned_all : List Str := ["solids", "turn", "images", "least", "_", "back", "solid", "cells", "cell", "item"]
theorem sc_turned_all : FnScope N_turned_all ["solids", "turn"] (defScope s_turned_all) := ⟨rfl, rfl, rfl, by decide +kernel, rfl, by decide +kernel, by decide +kernel⟩
abbrev s_Assembly_pieces : Stmt := inClass (topS 33) 4
abbrev N_Assembly_pieces : List Str := ["self"]
theorem sc_Assembly_pieces : FnScope N_Assembly_pieces ["self"] (defScope s_Assembly_pieces) := ⟨rfl, rfl, rfl, by decide +kernel, rfl, by decide +kernel, by decide +kernel⟩
abbrev s_solids_of : Stmt := topS 16
abbrev N_solids_of : List Str := ["assembly", "_", "solid"]
theorem sc_solids_of : FnScope N_solids_of ["assembly"] (defScope s_solids_of) := ⟨rfl, rfl, rfl, by decide +kernel, rfl, by decide +kernel, by decide +kernel⟩
abbrev s_form_of : Stmt := topS 17
abbrev N_form_of : List Str := ["assembly", "solids", "turn"]
theorem sc_form_of : FnScope N_form_of ["assembly"] (defScope s_form_of) := ⟨rfl, rfl, rfl, by decide +kernel, rfl, by decide +kernel, by decide +kernel⟩
abbrev s_alike : Stmt := topS 18
abbrev N_alike : List Str := ["one", "other"]
theorem sc_alike : FnScope N_alike ["one", "other"] (defScope s_alike) := ⟨rfl, rfl, rfl, by decide +kernel, rfl, by decide +kernel, by decide +kernel⟩
abbrev s_Assembly_names : Stmt := inClass (topS 33) 2
abbrev N_Assembly_names : List Str := ["self", "name", "_"]
theorem sc_Assembly_names : FnScope N_Assembly_names ["self"] (defScope s_Assembly_names) := ⟨rfl, rfl, rfl, by decide +kernel, rfl, by decide +kernel, by decide +kernel⟩
abbrev s_likeness : Stmt := topS 19
abbrev N_likeness : List Str := ["one", "other", "goal", "names", "turn", "solids", "row", "name", "solid"]
theorem sc_likeness : FnScope N_likeness ["one", "other"] (defScope s_likeness) := ⟨rfl, rfl, rfl, by decide +kernel, rfl, by decide +kernel, by decide +kernel⟩
abbrev s_PieceError___init__ : Stmt := inClass (topS 21) 0
abbrev N_PieceError___init__ : List Str := ["self", "word", "place"]
theorem sc_PieceError___init__ : FnScope N_PieceError___init__ ["self", "word", "place"] (defScope s_PieceError___init__) := ⟨rfl, rfl, rfl, by decide +kernel, rfl, by decide +kernel, by decide +kernel⟩
abbrev s_BadCount___init__ : Stmt := inClass (topS 22) 0
abbrev N_BadCount___init__ : List Str := ["self", "place"]
theorem sc_BadCount___init__ : FnScope N_BadCount___init__ ["self", "place"] (defScope s_BadCount___init__) := ⟨rfl, rfl, rfl, by decide +kernel, rfl, by decide +kernel, by decide +kernel⟩
abbrev s_BadName___init__ : Stmt := inClass (topS 23) 0
abbrev N_BadName___init__ : List Str := ["self", "place"]
theorem sc_BadName___init__ : FnScope N_BadName___init__ ["self", "place"] (defScope s_BadName___init__) := ⟨rfl, rfl, rfl, by decide +kernel, rfl, by decide +kernel, by decide +kernel⟩
abbrev s_BadSolid___init__ : Stmt := inClass (topS 24) 0
abbrev N_BadSolid___init__ : List Str := ["self", "place"]
theorem sc_BadSolid___init__ : FnScope N_BadSolid___init__ ["self", "place"] (defScope s_BadSolid___init__) := ⟨rfl, rfl, rfl, by decide +kernel, rfl, by decide +kernel, by decide +kernel⟩
abbrev s_SameName___init__ : Stmt := inClass (topS 25) 0
abbrev N_SameName___init__ : List Str := ["self", "place"]
theorem sc_SameName___init__ : FnScope N_SameName___init__ ["self", "place"] (defScope s_SameName___init__) := ⟨rfl, rfl, rfl, by decide +kernel, rfl, by decide +kernel, by decide +kernel⟩
abbrev s_Overlap___init__ : Stmt := inClass (topS 26) 0
abbrev N_Overlap___init__ : List Str := ["self", "place"]
theorem sc_Overlap___init__ : FnScope N_Overlap___init__ ["self", "place"] (defScope s_Overlap___init__) := ⟨rfl, rfl, rfl, by decide +kernel, rfl, by decide +kernel, by decide +kernel⟩
abbrev s_is_name : Stmt := topS 32
abbrev N_is_name : List Str := ["value", "letter"]
theorem sc_is_name : FnScope N_is_name ["value"] (defScope s_is_name) := ⟨rfl, rfl, rfl, by decide +kernel, rfl, by decide +kernel, by decide +kernel⟩
abbrev s_Assembly__add_piece : Stmt := inClass (topS 33) 1
abbrev N_Assembly__add_piece : List Str := ["self", "place", "item", "name", "solid", "_", "other", "cell"]
theorem sc_Assembly__add_piece : FnScope N_Assembly__add_piece ["self", "place", "item"] (defScope s_Assembly__add_piece) := ⟨rfl, rfl, rfl, by decide +kernel, rfl, by decide +kernel, by decide +kernel⟩
abbrev s_Assembly___init__ : Stmt := inClass (topS 33) 0
abbrev N_Assembly___init__ : List Str := ["self", "pieces", "place", "item"]
theorem sc_Assembly___init__ : FnScope N_Assembly___init__ ["self", "pieces"] (defScope s_Assembly___init__) := ⟨rfl, rfl, rfl, by decide +kernel, rfl, by decide +kernel, by decide +kernel⟩
abbrev s_law_deck : Stmt := topS 35
abbrev N_law_deck : List Str := ["script", "seed", "cell"]
theorem sc_law_deck : FnScope N_law_deck ["script"] (defScope s_law_deck) := ⟨rfl, rfl, rfl, by decide +kernel, rfl, by decide +kernel, by decide +kernel⟩
abbrev s_law_draw : Stmt := topS 36
abbrev N_law_draw : List Str := ["deck", "bound", "value", "number"]
theorem sc_law_draw : FnScope N_law_draw ["deck", "bound"] (defScope s_law_draw) := ⟨rfl, rfl, rfl, by decide +kernel, rfl, by decide +kernel, by decide +kernel⟩
abbrev s_law_beside : Stmt := topS 37
abbrev N_law_beside : List Str := ["cell", "found", "axis", "sign", "other"]
theorem sc_law_beside : FnScope N_law_beside ["cell"] (defScope s_law_beside) := ⟨rfl, rfl, rfl, by decide +kernel, rfl, by decide +kernel, by decide +kernel⟩
abbrev s_law_names : Stmt := topS 38
abbrev N_law_names : List Str := ["deck", "count", "letters", "size", "text", "place", "first", "step", "k"]
theorem sc_law_names : FnScope N_law_names ["deck", "count"] (defScope s_law_names) := ⟨rfl, rfl, rfl, by decide +kernel, rfl, by decide +kernel, by decide +kernel⟩
abbrev s_law_lump : Stmt := topS 39
abbrev N_law_lump : List Str := ["deck", "taken", "low", "wide", "start", "cells", "turn", "cell", "inside", "axis"]
theorem sc_law_lump : FnScope N_law_lump ["deck", "taken", "low", "wide"] (defScope s_law_lump) := ⟨rfl, rfl, rfl, by decide +kernel, rfl, by decide +kernel, by decide +kernel⟩
abbrev s_law_few : Stmt := topS 40
abbrev N_law_few : List Str := ["deck", "wide", "low", "names", "taken", "found", "k", "cells", "axis"]
theorem sc_law_few : FnScope N_law_few ["deck"] (defScope s_law_few) := ⟨rfl, rfl, rfl, by decide +kernel, rfl, by decide +kernel, by decide +kernel⟩
abbrev s_law_row_of : Stmt := topS 41
abbrev N_law_row_of : List Str := ["pair", "row"]
theorem sc_law_row_of : FnScope N_law_row_of ["pair"] (defScope s_law_row_of) := ⟨rfl, rfl, rfl, by decide +kernel, rfl, by decide +kernel, by decide +kernel⟩
abbrev s_law_turns : Stmt := topS 42
abbrev N_law_turns : List Str := ["found", "axes", "code", "signs", "turn", "a", "b", "c", "minors", "pair", "k"]
theorem sc_law_turns : FnScope N_law_turns [] (defScope s_law_turns) := ⟨rfl, rfl, rfl, by decide +kernel, rfl, by decide +kernel, by decide +kernel⟩
abbrev s_law_image : Stmt := topS 43
abbrev N_law_image : List Str := ["cell", "turn", "found", "pair", "row"]
theorem sc_law_image : FnScope N_law_image ["cell", "turn"] (defScope s_law_image) := ⟨rfl, rfl, rfl, by decide +kernel, rfl, by decide +kernel, by decide +kernel⟩
abbrev s_law_shifted : Stmt := topS 44
abbrev N_law_shifted : List Str := ["lists", "least", "found", "cells", "axis", "cell"]
theorem sc_law_shifted : FnScope N_law_shifted ["lists"] (defScope s_law_shifted) := ⟨rfl, rfl, rfl, by decide +kernel, rfl, by decide +kernel, by decide +kernel⟩
abbrev s_law_turned : Stmt := topS 45
abbrev N_law_turned : List Str := ["lists", "turn", "rows", "cells", "cell"]
theorem sc_law_turned : FnScope N_law_turned ["lists", "turn"] (defScope s_law_turned) := ⟨rfl, rfl, rfl, by decide +kernel, rfl, by decide +kernel, by decide +kernel⟩
abbrev s_law_mixed : Stmt := topS 46
abbrev N_law_mixed : List Str := ["deck", "row", "left", "k"]
theorem sc_law_mixed : FnScope N_law_mixed ["deck", "row"] (defScope s_law_mixed) := ⟨rfl, rfl, rfl, by decide +kernel, rfl, by decide +kernel, by decide +kernel⟩
abbrev s_law_moved : Stmt := topS 47
abbrev N_law_moved : List Str := ["cells", "offset", "cell"]
theorem sc_law_moved : FnScope N_law_moved ["cells", "offset"] (defScope s_law_moved) := ⟨rfl, rfl, rfl, by decide +kernel, rfl, by decide +kernel, by decide +kernel⟩
abbrev s_law_copy : Stmt := topS 48
abbrev N_law_copy : List Str := ["deck", "pieces", "turns", "kind", "lists", "most", "offset", "names", "rows", "cells", "place", "off", "piece", "axis", "k", "cell"]
theorem sc_law_copy : FnScope N_law_copy ["deck", "pieces", "turns"] (defScope s_law_copy) := ⟨rfl, rfl, rfl, by decide +kernel, rfl, by decide +kernel, by decide +kernel⟩
abbrev s_law_likeness : Stmt := topS 49
abbrev N_law_likeness : List Str := ["pieces", "others", "turns", "goal", "turn", "lists", "other", "piece", "k"]
theorem sc_law_likeness : FnScope N_law_likeness ["pieces", "others", "turns"] (defScope s_law_likeness) := ⟨rfl, rfl, rfl, by decide +kernel, rfl, by decide +kernel, by decide +kernel⟩
abbrev s_law_same : Stmt := topS 50
abbrev N_law_same : List Str := ["value", "due"]
theorem sc_law_same : FnScope N_law_same ["value", "due"] (defScope s_law_same) := ⟨rfl, rfl, rfl, by decide +kernel, rfl, by decide +kernel, by decide +kernel⟩
abbrev s_law : Stmt := topS 51
abbrev N_law : List Str := ["script", "deck", "turns", "pieces", "others", "one", "other", "due", "turn", "found", "back", "told"]
theorem sc_law : FnScope N_law ["script"] (defScope s_law) := ⟨rfl, rfl, rfl, by decide +kernel, rfl, by decide +kernel, by decide +kernel⟩
def cNO_TURN : D := .tup [.tup [.int 0, .int 1], .tup [.int 1, .int 1], .tup [.int 2, .int 1]]
def cTURNS : D := .tup [.tup [.tup [.int 0, .int (-1)], .tup [.int 1, .int (-1)], .tup [.int 2, .int 1]], .tup [.tup [.int 0, .int (-1)], .tup [.int 1, .int 1], .tup [.int 2, .int (-1)]], .tup [.tup [.int 0, .int (-1)], .tup [.int 2, .int (-1)], .tup [.int 1, .int (-1)]], .tup [.tup [.int 0, .int (-1)], .tup [.int 2, .int 1], .tup [.int 1, .int 1]], .tup [.tup [.int 0, .int 1], .tup [.int 1, .int (-1)], .tup [.int 2, .int (-1)]], .tup [.tup [.int 0, .int 1], .tup [.int 1, .int 1], .tup [.int 2, .int 1]], .tup [.tup [.int 0, .int 1], .tup [.int 2, .int (-1)], .tup [.int 1, .int 1]], .tup [.tup [.int 0, .int 1], .tup [.int 2, .int 1], .tup [.int 1, .int (-1)]], .tup [.tup [.int 1, .int (-1)], .tup [.int 0, .int (-1)], .tup [.int 2, .int (-1)]], .tup [.tup [.int 1, .int (-1)], .tup [.int 0, .int 1], .tup [.int 2, .int 1]], .tup [.tup [.int 1, .int (-1)], .tup [.int 2, .int (-1)], .tup [.int 0, .int 1]], .tup [.tup [.int 1, .int (-1)], .tup [.int 2, .int 1], .tup [.int 0, .int (-1)]], .tup [.tup [.int 1, .int 1], .tup [.int 0, .int (-1)], .tup [.int 2, .int 1]], .tup [.tup [.int 1, .int 1], .tup [.int 0, .int 1], .tup [.int 2, .int (-1)]], .tup [.tup [.int 1, .int 1], .tup [.int 2, .int (-1)], .tup [.int 0, .int (-1)]], .tup [.tup [.int 1, .int 1], .tup [.int 2, .int 1], .tup [.int 0, .int 1]], .tup [.tup [.int 2, .int (-1)], .tup [.int 0, .int (-1)], .tup [.int 1, .int 1]], .tup [.tup [.int 2, .int (-1)], .tup [.int 0, .int 1], .tup [.int 1, .int (-1)]], .tup [.tup [.int 2, .int (-1)], .tup [.int 1, .int (-1)], .tup [.int 0, .int (-1)]], .tup [.tup [.int 2, .int (-1)], .tup [.int 1, .int 1], .tup [.int 0, .int 1]], .tup [.tup [.int 2, .int 1], .tup [.int 0, .int (-1)], .tup [.int 1, .int (-1)]], .tup [.tup [.int 2, .int 1], .tup [.int 0, .int 1], .tup [.int 1, .int 1]], .tup [.tup [.int 2, .int 1], .tup [.int 1, .int (-1)], .tup [.int 0, .int 1]], .tup [.tup [.int 2, .int 1], .tup [.int 1, .int 1], .tup [.int 0, .int (-1)]]]
structure Txt (K : PySem.W.Frag) (mg : Str → Option Value) (C : Nat → Addr) (a : Nat → Addr) (fd : Nat → FuncData) : Prop where
  F_is_integer : Fun K "is_integer" "is_integer" s_is_integer (a 0) (fd 0)
  g_is_integer : mg "is_integer" = some (.ref (a 0))
  b_is_integer : Binds K (fd 0) ["value"] []
  F_is_cell : Fun K "is_cell" "is_cell" s_is_cell (a 1) (fd 1)
  g_is_cell : mg "is_cell" = some (.ref (a 1))
  b_is_cell : Binds K (fd 1) ["value"] []
  F_beside : Fun K "beside" "beside" s_beside (a 2) (fd 2)
  g_beside : mg "beside" = some (.ref (a 2))
  b_beside : Binds K (fd 2) ["cell"] []
  F_hang_together : Fun K "hang_together" "hang_together" s_hang_together (a 3) (fd 3)
  g_hang_together : mg "hang_together" = some (.ref (a 3))
  b_hang_together : Binds K (fd 3) ["cells"] []
  F_is_solid : Fun K "is_solid" "is_solid" s_is_solid (a 4) (fd 4)
  g_is_solid : mg "is_solid" = some (.ref (a 4))
  b_is_solid : Binds K (fd 4) ["value"] []
  F_extents : Fun K "extents" "extents" s_extents (a 5) (fd 5)
  g_extents : mg "extents" = some (.ref (a 5))
  b_extents : Binds K (fd 5) ["cells"] []
  F_moved : Fun K "moved" "moved" s_moved (a 6) (fd 6)
  g_moved : mg "moved" = some (.ref (a 6))
  b_moved : Binds K (fd 6) ["cells", "offset"] []
  F_image_of : Fun K "image_of" "image_of" s_image_of (a 7) (fd 7)
  g_image_of : mg "image_of" = some (.ref (a 7))
  b_image_of : Binds K (fd 7) ["cell", "turn"] []
  F_turned_all : Fun K "turned_all" "turned_all" s_turned_all (a 8) (fd 8)
  g_turned_all : mg "turned_all" = some (.ref (a 8))
  b_turned_all : Binds K (fd 8) ["solids", "turn"] []
  F_Assembly_pieces : Fun K "pieces" "Assembly.pieces" s_Assembly_pieces (a 9) (fd 9)
  b_Assembly_pieces : Binds K (fd 9) ["self"] []
  F_solids_of : Fun K "solids_of" "solids_of" s_solids_of (a 10) (fd 10)
  g_solids_of : mg "solids_of" = some (.ref (a 10))
  b_solids_of : Binds K (fd 10) ["assembly"] []
  F_form_of : Fun K "form_of" "form_of" s_form_of (a 11) (fd 11)
  g_form_of : mg "form_of" = some (.ref (a 11))
  b_form_of : Binds K (fd 11) ["assembly"] []
  F_alike : Fun K "alike" "alike" s_alike (a 12) (fd 12)
  g_alike : mg "alike" = some (.ref (a 12))
  b_alike : Binds K (fd 12) ["one", "other"] []
  F_Assembly_names : Fun K "names" "Assembly.names" s_Assembly_names (a 13) (fd 13)
  b_Assembly_names : Binds K (fd 13) ["self"] []
  F_likeness : Fun K "likeness" "likeness" s_likeness (a 14) (fd 14)
  g_likeness : mg "likeness" = some (.ref (a 14))
  b_likeness : Binds K (fd 14) ["one", "other"] []
  F_PieceError___init__ : FunD K "__init__" "PieceError.__init__" (defArgs s_PieceError___init__) (defBody s_PieceError___init__) (defScope s_PieceError___init__) [V.non] [] (a 15) (fd 15)
  b1_PieceError___init__ : Binds K (fd 15) ["self", "word", "place"] [.none]
  b_PieceError___init__ : Binds K (fd 15) ["self", "word", "place"] []
  F_BadCount___init__ : FunD K "__init__" "BadCount.__init__" (defArgs s_BadCount___init__) (defBody s_BadCount___init__) (defScope s_BadCount___init__) [V.non] [] (a 16) (fd 16)
  b1_BadCount___init__ : Binds K (fd 16) ["self", "place"] [.none]
  b_BadCount___init__ : Binds K (fd 16) ["self", "place"] []
  F_BadName___init__ : FunD K "__init__" "BadName.__init__" (defArgs s_BadName___init__) (defBody s_BadName___init__) (defScope s_BadName___init__) [V.non] [] (a 17) (fd 17)
  b1_BadName___init__ : Binds K (fd 17) ["self", "place"] [.none]
  b_BadName___init__ : Binds K (fd 17) ["self", "place"] []
  F_BadSolid___init__ : FunD K "__init__" "BadSolid.__init__" (defArgs s_BadSolid___init__) (defBody s_BadSolid___init__) (defScope s_BadSolid___init__) [V.non] [] (a 18) (fd 18)
  b1_BadSolid___init__ : Binds K (fd 18) ["self", "place"] [.none]
  b_BadSolid___init__ : Binds K (fd 18) ["self", "place"] []
  F_SameName___init__ : FunD K "__init__" "SameName.__init__" (defArgs s_SameName___init__) (defBody s_SameName___init__) (defScope s_SameName___init__) [V.non] [] (a 19) (fd 19)
  b1_SameName___init__ : Binds K (fd 19) ["self", "place"] [.none]
  b_SameName___init__ : Binds K (fd 19) ["self", "place"] []
  F_Overlap___init__ : FunD K "__init__" "Overlap.__init__" (defArgs s_Overlap___init__) (defBody s_Overlap___init__) (defScope s_Overlap___init__) [V.non] [] (a 20) (fd 20)
  b1_Overlap___init__ : Binds K (fd 20) ["self", "place"] [.none]
  b_Overlap___init__ : Binds K (fd 20) ["self", "place"] []
  F_is_name : Fun K "is_name" "is_name" s_is_name (a 21) (fd 21)
  g_is_name : mg "is_name" = some (.ref (a 21))
  b_is_name : Binds K (fd 21) ["value"] []
  F_Assembly__add_piece : Fun K "_add_piece" "Assembly._add_piece" s_Assembly__add_piece (a 22) (fd 22)
  b_Assembly__add_piece : Binds K (fd 22) ["self", "place", "item"] []
  F_Assembly___init__ : Fun K "__init__" "Assembly.__init__" s_Assembly___init__ (a 23) (fd 23)
  b_Assembly___init__ : Binds K (fd 23) ["self", "pieces"] []
  F_law_deck : Fun K "_law_deck" "_law_deck" s_law_deck (a 24) (fd 24)
  g_law_deck : mg "_law_deck" = some (.ref (a 24))
  b_law_deck : Binds K (fd 24) ["script"] []
  F_law_draw : Fun K "_law_draw" "_law_draw" s_law_draw (a 25) (fd 25)
  g_law_draw : mg "_law_draw" = some (.ref (a 25))
  b_law_draw : Binds K (fd 25) ["deck", "bound"] []
  F_law_beside : Fun K "_law_beside" "_law_beside" s_law_beside (a 26) (fd 26)
  g_law_beside : mg "_law_beside" = some (.ref (a 26))
  b_law_beside : Binds K (fd 26) ["cell"] []
  F_law_names : Fun K "_law_names" "_law_names" s_law_names (a 27) (fd 27)
  g_law_names : mg "_law_names" = some (.ref (a 27))
  b_law_names : Binds K (fd 27) ["deck", "count"] []
  F_law_lump : Fun K "_law_lump" "_law_lump" s_law_lump (a 28) (fd 28)
  g_law_lump : mg "_law_lump" = some (.ref (a 28))
  b_law_lump : Binds K (fd 28) ["deck", "taken", "low", "wide"] []
  F_law_few : Fun K "_law_few" "_law_few" s_law_few (a 29) (fd 29)
  g_law_few : mg "_law_few" = some (.ref (a 29))
  b_law_few : Binds K (fd 29) ["deck"] []
  F_law_row_of : Fun K "_law_row_of" "_law_row_of" s_law_row_of (a 30) (fd 30)
  g_law_row_of : mg "_law_row_of" = some (.ref (a 30))
  b_law_row_of : Binds K (fd 30) ["pair"] []
  F_law_turns : Fun K "_law_turns" "_law_turns" s_law_turns (a 31) (fd 31)
  g_law_turns : mg "_law_turns" = some (.ref (a 31))
  b_law_turns : Binds K (fd 31) [] []
  F_law_image : Fun K "_law_image" "_law_image" s_law_image (a 32) (fd 32)
  g_law_image : mg "_law_image" = some (.ref (a 32))
  b_law_image : Binds K (fd 32) ["cell", "turn"] []
  F_law_shifted : Fun K "_law_shifted" "_law_shifted" s_law_shifted (a 33) (fd 33)
  g_law_shifted : mg "_law_shifted" = some (.ref (a 33))
  b_law_shifted : Binds K (fd 33) ["lists"] []
  F_law_turned : Fun K "_law_turned" "_law_turned" s_law_turned (a 34) (fd 34)
  g_law_turned : mg "_law_turned" = some (.ref (a 34))
  b_law_turned : Binds K (fd 34) ["lists", "turn"] []
  F_law_mixed : Fun K "_law_mixed" "_law_mixed" s_law_mixed (a 35) (fd 35)
  g_law_mixed : mg "_law_mixed" = some (.ref (a 35))
  b_law_mixed : Binds K (fd 35) ["deck", "row"] []
  F_law_moved : Fun K "_law_moved" "_law_moved" s_law_moved (a 36) (fd 36)
  g_law_moved : mg "_law_moved" = some (.ref (a 36))
  b_law_moved : Binds K (fd 36) ["cells", "offset"] []
  F_law_copy : Fun K "_law_copy" "_law_copy" s_law_copy (a 37) (fd 37)
  g_law_copy : mg "_law_copy" = some (.ref (a 37))
  b_law_copy : Binds K (fd 37) ["deck", "pieces", "turns"] []
  F_law_likeness : Fun K "_law_likeness" "_law_likeness" s_law_likeness (a 38) (fd 38)
  g_law_likeness : mg "_law_likeness" = some (.ref (a 38))
  b_law_likeness : Binds K (fd 38) ["pieces", "others", "turns"] []
  F_law_same : Fun K "_law_same" "_law_same" s_law_same (a 39) (fd 39)
  g_law_same : mg "_law_same" = some (.ref (a 39))
  b_law_same : Binds K (fd 39) ["value", "due"] []
  F_law : Fun K "law" "law" s_law (a 40) (fd 40)
  g_law : mg "law" = some (.ref (a 40))
  b_law : Binds K (fd 40) ["script"] []
  cl_Assembly : Cls K (C 0)
  gc_Assembly : mg "Assembly" = some (.ref (C 0))
  na_Assembly__pieces : NoAttr K (C 0) "_pieces"
  me_Assembly_pieces : Meth K (C 0) "pieces" (a 9)
  me_Assembly_names : Meth K (C 0) "names" (a 13)
  me_Assembly__add_piece : Meth K (C 0) "_add_piece" (a 22)
  mk_Assembly : Mk K (C 0) (a 23)
  gc_PieceError : mg "PieceError" = some (.ref (C 3))
  er_PieceError : ErrA K (C 3)
  gc_BadCount : mg "BadCount" = some (.ref (C 4))
  er_BadCount : ErrA K (C 4)
  gc_BadName : mg "BadName" = some (.ref (C 5))
  er_BadName : ErrA K (C 5)
  gc_BadSolid : mg "BadSolid" = some (.ref (C 6))
  er_BadSolid : ErrA K (C 6)
  gc_SameName : mg "SameName" = some (.ref (C 7))
  er_SameName : ErrA K (C 7)
  gc_Overlap : mg "Overlap" = some (.ref (C 8))
  er_Overlap : ErrA K (C 8)
  ii_BadCount : PySem.W.findIn K (.ref (C 4)) "__init__" = some (some (.ref (a 16)))
  ti_BadCount : PySem.W.typeIn K (.ref (a 16)) = some (.type "function")
  ii_BadName : PySem.W.findIn K (.ref (C 5)) "__init__" = some (some (.ref (a 17)))
  ti_BadName : PySem.W.typeIn K (.ref (a 17)) = some (.type "function")
  ii_BadSolid : PySem.W.findIn K (.ref (C 6)) "__init__" = some (some (.ref (a 18)))
  ti_BadSolid : PySem.W.typeIn K (.ref (a 18)) = some (.type "function")
  ii_SameName : PySem.W.findIn K (.ref (C 7)) "__init__" = some (some (.ref (a 19)))
  ti_SameName : PySem.W.typeIn K (.ref (a 19)) = some (.type "function")
  ii_Overlap : PySem.W.findIn K (.ref (C 8)) "__init__" = some (some (.ref (a 20)))
  ti_Overlap : PySem.W.typeIn K (.ref (a 20)) = some (.type "function")
  rd_PE : PySem.W.readsIn K (C 3) (.type "type") = true
  sg_PE : PySem.W.specialIn K (.ref (C 3)) "__getattribute__" = some (some (.builtin "type.__getattribute__"))
  fc_PE : PySem.W.findCls K (.ref (C 3)) (.type "type") "__init__" = some (.val (.ref (a 15)))
  hh_PE : PySem.W.handedIn (.ref (a 15)) = true
  c_CELLS_MOST : ∃ t, mg "CELLS_MOST" = some (.int 40 t)
  c_COORDINATE_MOST : ∃ t, mg "COORDINATE_MOST" = some (.int 15 t)
  c_NAME_LETTERS : ∃ t, mg "NAME_LETTERS" = some (.str "abcdefghijklmnopqrstuvwxyz" t)
  c_NAME_MOST : ∃ t, mg "NAME_MOST" = some (.int 8 t)
  c_NO_TURN : ∃ u, mg "NO_TURN" = some u ∧ kD K cNO_TURN u = true
  c_PIECES_MOST : ∃ t, mg "PIECES_MOST" = some (.int 6 t)
  c_TURNS : ∃ u, mg "TURNS" = some u ∧ kD K cTURNS u = true
  m_abs : mg "abs" = none
  m_all : mg "all" = none
  m_any : mg "any" = none
  m_bool : mg "bool" = none
  m_enumerate : mg "enumerate" = none
  m_int : mg "int" = none
  m_isinstance : mg "isinstance" = none
  m_len : mg "len" = none
  m_list : mg "list" = none
  m_max : mg "max" = none
  m_min : mg "min" = none
  m_range : mg "range" = none
  m_repr : mg "repr" = none
  m_sorted : mg "sorted" = none
  m_str : mg "str" = none
  m_tuple : mg "tuple" = none
  m_zip : mg "zip" = none
  nc : noCell K = true
section
variable {P : Program} {w : World} {K : PySem.W.Frag} {mg : Str → Option Value} {base : Heap} {C : Nat → Addr} {a : Nat → Addr} {fd : Nat → FuncData}
/-- is_integer -/
def isInt : D → Bool
  | .int _ => true
  | _ => false
def sp_is_integer : DSp := sp1 fun d S Q _ => (tyName S d).isSome = true ∧ Q (.bl (isInt d)) S
theorem sp_len_is_integer : ∀ ds S Q E, sp_is_integer ds S Q E → ds.length = 1 := sp1_len
theorem tyName_ref {S : Sto} {b : Addr} {y : String} (h : tyName S (.ref b) = some y) : y = "list" ∨ y = "dict" := by
  unfold tyName at h
  cases e : S b with
  | none => simp [e] at h
  | some o => cases o <;> simp [e] at h <;> simp [← h]
theorem ok_is_integer (T : Txt K mg C a fd)  : DFn P w K mg base 1 (a 0) (fd 0) ["value"] sp_is_integer := by
  refine dfn_of T.F_is_integer sc_is_integer sp_len_is_integer (fun cdv A outer s B Ed hr hgd => ?_)
  have am : Amb (A.deeper (envOfC "is_integer" (defScope s_is_integer) s.heap.objs.size (a 0) cdv)) 0 := ⟨hr, hgd⟩
  refine ⟨_, (dss_one (ds_ret (de_and (de_callB call_isi cad_isi rfl T.m_isinstance bt_isinstance (da_cons (de_var 0) (da_cons (de_ty rfl T.m_int bt_int) da_nil))) (de_one (de_not (de_callB call_isi cad_isi rfl T.m_isinstance bt_isinstance (da_cons (de_var 0) (da_cons (de_ty rfl T.m_bool bt_bool) da_nil)))))))), ?_⟩
  intro ds Q h
  obtain ⟨d, rfl, ht, q⟩ := sp1_get h
  simp only [dNext, dSeq, dSet, dRet, dRetN, dIf, dDrop, dBreak, dCont, dVar, dC, dCons, dNil, dCB, dCall, dOp, dUn, dTest, dTru, dAnd, dOr, dNot, dAndV, dOrV, dNotV, dIfE, dTup, dLst, dLstO, dFor, dLc, dLcO, dAsg, dgName, dgTup, dgCons, dgNil, dgSub, dMeth, dChain, dIsN, isNP, DL.isNon, truD, dYes, dSl, dNoPart, dPart, dwSeq, dwRng1, dwRng2, dwipe, addP, subP, mulP, fdivP, modP, powP, negP, cmpP, eqP, neP, ixP, lenP, absP, intP, tupleP, listP, listOP, sp1, sp2, sp3, sp4, List.map_cons, List.map_nil, List.replicate_zero, List.replicate_succ, List.length_cons, List.length_nil, List.cons_append, List.nil_append, List.append_nil, List.getElem?_cons_zero, List.getElem?_cons_succ, List.set_cons_zero, List.set_cons_succ, Nat.reduceSub, Nat.reduceAdd, seqOf_tup, seqOf_lst, lstOf_lst, lstOf_put, seqOf_put, put_same, put_put, atI_0, atI_1, atI_2, atI_3, atI_4, ixN_0, ixN_1, ixN_2, ixN_4, Nat.reduceLeDiff, Int.reduceEq, Int.reduceLT, Int.reduceLE, decide_true, decide_false, eq_self, if_true, if_false, Bool.false_eq_true, Bool.not_true, Bool.not_false, reduceIte]
  have q := lows_same q
  obtain ⟨y, hy⟩ := Option.isSome_iff_exists.mp ht
  cases d with
  | ref b =>
    have hy' := tyName_ref hy
    refine isi_of hy rfl ?_
    rcases hy' with rfl | rfl <;> exact q
  | obj C n xs => simp [tyName] at hy
  | ty n => simp [tyName] at hy
  | _ => exact isi_of rfl rfl (by first | exact q | exact isi_of rfl rfl q)
/-- is_cell: a tuple of three coordinates -/
def okCoord : D → Bool
  | .int i => decide (0 ≤ i) && decide (i ≤ 15)
  | _ => false
def isCell : D → Bool
  | .tup [x, y, z] => okCoord x && (okCoord y && okCoord z)
  | _ => false
def sp_is_cell : DSp := sp1 fun d S Q _ => plain d = true ∧ Q (.bl (isCell d)) S
theorem sp_len_is_cell : ∀ ds S Q E, sp_is_cell ds S Q E → ds.length = 1 := sp1_len
theorem isCell_len {xs : List D} (h : xs.length ≠ 3) : isCell (.tup xs) = false := by
  unfold isCell
  split
  · rename_i e; cases e; exact absurd rfl h
  · rfl
theorem isInt_cases (d : D) : (∃ i, d = .int i) ∨ (isInt d = false ∧ okCoord d = false) := by
  cases d <;> first | exact .inl ⟨_, rfl⟩ | exact .inr ⟨rfl, rfl⟩
theorem ok_is_cell (T : Txt K mg C a fd) (G_is_integer : DFn P w K mg base 1 (a 0) (fd 0) ["value"] sp_is_integer) : DFn P w K mg base 2 (a 1) (fd 1) ["value"] sp_is_cell := by
  refine dfn_of T.F_is_cell sc_is_cell sp_len_is_cell (fun cdv A outer s B Ed hr hgd => ?_)
  have am : Amb (A.deeper (envOfC "is_cell" (defScope s_is_cell) s.heap.objs.size (a 1) cdv)) 1 := ⟨hr, hgd⟩
  refine ⟨_, (dss_cons (ds_if (dw_t (dw_or (dt_not (dt_tru (de_callB call_isi cad_isi rfl T.m_isinstance bt_isinstance (da_cons (de_var 0) (da_cons (de_ty rfl T.m_tuple bt_tuple) da_nil))))) (dw_or1 (dt_cmp1 (cd_ne am) (de_callB call_len cad_len rfl T.m_len bt_len (da_cons (de_var 0) da_nil)) de_int))))
    (dss_one (ds_ret de_bl))
    dss_nil)
    (dss_one (ds_ret (de_callB (cr_all rfl) cad_all rfl T.m_all bt_all (da_cons (de_lc rfl sc_is_cell.nd (di_seq (de_var 0)) (blkOk_by (own := [("item", 1)]) (N := N_is_cell) (sc := (defScope s_is_cell)) (by decide +kernel))
      (fun _ _ _ _ _ _ => (dgv_name 1 sc_is_cell.nd)) (fun _ _ _ _ _ _ => dts_nil) (fun _ _ _ _ _ _ => (de_and (de_call G_is_integer (am.room.mono (by decide)) am.guards rfl T.g_is_integer T.F_is_integer.kp T.b_is_integer .nil closed_nil dtk0 (da_cons (de_var 1) da_nil)) (de_one (de_chain cd_le cd_le de_int (de_var 1) (de_globI rfl T.c_COORDINATE_MOST)))))) da_nil))))), ?_⟩
  intro ds Q h
  obtain ⟨d, rfl, hp, q⟩ := sp1_get h
  have q := lows_same q
  cases d with
  | tup xs =>
    simp only [dNext, dSeq, dSet, dRet, dRetN, dIf, dDrop, dBreak, dCont, dVar, dC, dCons, dNil, dCB, dCall, dOp, dUn, dTest, dTru, dAnd, dOr, dNot, dAndV, dOrV, dNotV, dIfE, dTup, dLst, dLstO, dFor, dLc, dLcO, dAsg, dgName, dgTup, dgCons, dgNil, dgSub, dMeth, dChain, dIsN, isNP, DL.isNon, truD, dYes, dSl, dNoPart, dPart, dwSeq, dwRng1, dwRng2, dwipe, addP, subP, mulP, fdivP, modP, powP, negP, cmpP, eqP, neP, ixP, lenP, absP, intP, tupleP, listP, listOP, sp1, sp2, sp3, sp4, List.map_cons, List.map_nil, List.replicate_zero, List.replicate_succ, List.length_cons, List.length_nil, List.cons_append, List.nil_append, List.append_nil, List.getElem?_cons_zero, List.getElem?_cons_succ, List.set_cons_zero, List.set_cons_succ, Nat.reduceSub, Nat.reduceAdd, seqOf_tup, seqOf_lst, lstOf_lst, lstOf_put, seqOf_put, put_same, put_put, atI_0, atI_1, atI_2, atI_3, atI_4, ixN_0, ixN_1, ixN_2, ixN_4, Nat.reduceLeDiff, Int.reduceEq, Int.reduceLT, Int.reduceLE, decide_true, decide_false, eq_self, if_true, if_false, Bool.false_eq_true, Bool.not_true, Bool.not_false, reduceIte]
    refine isi_of rfl rfl ?_
    simp only [subTy, dNext, dSeq, dSet, dRet, dRetN, dIf, dDrop, dBreak, dCont, dVar, dC, dCons, dNil, dCB, dCall, dOp, dUn, dTest, dTru, dAnd, dOr, dNot, dAndV, dOrV, dNotV, dIfE, dTup, dLst, dLstO, dFor, dLc, dLcO, dAsg, dgName, dgTup, dgCons, dgNil, dgSub, dMeth, dChain, dIsN, isNP, DL.isNon, truD, dYes, dSl, dNoPart, dPart, dwSeq, dwRng1, dwRng2, dwipe, addP, subP, mulP, fdivP, modP, powP, negP, cmpP, eqP, neP, ixP, lenP, absP, intP, tupleP, listP, listOP, sp1, sp2, sp3, sp4, List.map_cons, List.map_nil, List.replicate_zero, List.replicate_succ, List.length_cons, List.length_nil, List.cons_append, List.nil_append, List.append_nil, List.getElem?_cons_zero, List.getElem?_cons_succ, List.set_cons_zero, List.set_cons_succ, Nat.reduceSub, Nat.reduceAdd, seqOf_tup, seqOf_lst, lstOf_lst, lstOf_put, seqOf_put, put_same, put_put, atI_0, atI_1, atI_2, atI_3, atI_4, ixN_0, ixN_1, ixN_2, ixN_4, Nat.reduceLeDiff, Int.reduceEq, Int.reduceLT, Int.reduceLE, decide_true, decide_false, eq_self, if_true, if_false, Bool.false_eq_true, Bool.not_true, Bool.not_false, reduceIte]
    by_cases hl : xs.length = 3
    · obtain ⟨x, y, z, rfl⟩ : ∃ x y z, xs = [x, y, z] := by
        match xs, hl with
        | [x, y, z], _ => exact ⟨x, y, z, rfl⟩
      simp only [beq_self_eq_true, Bool.true_or, dNext, dSeq, dSet, dRet, dRetN, dIf, dDrop, dBreak, dCont, dVar, dC, dCons, dNil, dCB, dCall, dOp, dUn, dTest, dTru, dAnd, dOr, dNot, dAndV, dOrV, dNotV, dIfE, dTup, dLst, dLstO, dFor, dLc, dLcO, dAsg, dgName, dgTup, dgCons, dgNil, dgSub, dMeth, dChain, dIsN, isNP, DL.isNon, truD, dYes, dSl, dNoPart, dPart, dwSeq, dwRng1, dwRng2, dwipe, addP, subP, mulP, fdivP, modP, powP, negP, cmpP, eqP, neP, ixP, lenP, absP, intP, tupleP, listP, listOP, sp1, sp2, sp3, sp4, List.map_cons, List.map_nil, List.replicate_zero, List.replicate_succ, List.length_cons, List.length_nil, List.cons_append, List.nil_append, List.append_nil, List.getElem?_cons_zero, List.getElem?_cons_succ, List.set_cons_zero, List.set_cons_succ, Nat.reduceSub, Nat.reduceAdd, seqOf_tup, seqOf_lst, lstOf_lst, lstOf_put, seqOf_put, put_same, put_put, atI_0, atI_1, atI_2, atI_3, atI_4, ixN_0, ixN_1, ixN_2, ixN_4, Nat.reduceLeDiff, Int.reduceEq, Int.reduceLT, Int.reduceLE, decide_true, decide_false, eq_self, if_true, if_false, Bool.false_eq_true, Bool.not_true, Bool.not_false, reduceIte]
      refine lc_map (fun d => .bl (okCoord d)) trivial _ _ (fun d hd Q q => ?_) ?_
      · have hpd : plain d = true := plainAll_iff.mp hp d hd
        simp only [dNext, dSeq, dSet, dRet, dRetN, dIf, dDrop, dBreak, dCont, dVar, dC, dCons, dNil, dCB, dCall, dOp, dUn, dTest, dTru, dAnd, dOr, dNot, dAndV, dOrV, dNotV, dIfE, dTup, dLst, dLstO, dFor, dLc, dLcO, dAsg, dgName, dgTup, dgCons, dgNil, dgSub, dMeth, dChain, dIsN, isNP, DL.isNon, truD, dYes, dSl, dNoPart, dPart, dwSeq, dwRng1, dwRng2, dwipe, addP, subP, mulP, fdivP, modP, powP, negP, cmpP, eqP, neP, ixP, lenP, absP, intP, tupleP, listP, listOP, sp1, sp2, sp3, sp4, List.map_cons, List.map_nil, List.replicate_zero, List.replicate_succ, List.length_cons, List.length_nil, List.cons_append, List.nil_append, List.append_nil, List.getElem?_cons_zero, List.getElem?_cons_succ, List.set_cons_zero, List.set_cons_succ, Nat.reduceSub, Nat.reduceAdd, seqOf_tup, seqOf_lst, lstOf_lst, lstOf_put, seqOf_put, put_same, put_put, atI_0, atI_1, atI_2, atI_3, atI_4, ixN_0, ixN_1, ixN_2, ixN_4, Nat.reduceLeDiff, Int.reduceEq, Int.reduceLT, Int.reduceLE, decide_true, decide_false, eq_self, if_true, if_false, Bool.false_eq_true, Bool.not_true, Bool.not_false, reduceIte, sp_is_integer]
        refine ⟨plain_ty hpd, ?_⟩
        rcases isInt_cases d with ⟨i, rfl⟩ | ⟨h1, h2⟩
        · simp only [isInt, okCoord, dNext, dSeq, dSet, dRet, dRetN, dIf, dDrop, dBreak, dCont, dVar, dC, dCons, dNil, dCB, dCall, dOp, dUn, dTest, dTru, dAnd, dOr, dNot, dAndV, dOrV, dNotV, dIfE, dTup, dLst, dLstO, dFor, dLc, dLcO, dAsg, dgName, dgTup, dgCons, dgNil, dgSub, dMeth, dChain, dIsN, isNP, DL.isNon, truD, dYes, dSl, dNoPart, dPart, dwSeq, dwRng1, dwRng2, dwipe, addP, subP, mulP, fdivP, modP, powP, negP, cmpP, eqP, neP, ixP, lenP, absP, intP, tupleP, listP, listOP, sp1, sp2, sp3, sp4, List.map_cons, List.map_nil, List.replicate_zero, List.replicate_succ, List.length_cons, List.length_nil, List.cons_append, List.nil_append, List.append_nil, List.getElem?_cons_zero, List.getElem?_cons_succ, List.set_cons_zero, List.set_cons_succ, Nat.reduceSub, Nat.reduceAdd, seqOf_tup, seqOf_lst, lstOf_lst, lstOf_put, seqOf_put, put_same, put_put, atI_0, atI_1, atI_2, atI_3, atI_4, ixN_0, ixN_1, ixN_2, ixN_4, Nat.reduceLeDiff, Int.reduceEq, Int.reduceLT, Int.reduceLE, decide_true, decide_false, eq_self, if_true, if_false, Bool.false_eq_true, Bool.not_true, Bool.not_false, reduceIte] at q ⊢
          by_cases h0 : 0 ≤ i
          · simp only [decide_eq_true h0, Bool.true_and] at q ⊢
            exact q
          · simp only [decide_eq_false h0, Bool.false_and] at q ⊢
            exact q
        · simp only [h1, h2] at q ⊢
          exact q
      · simp only [allP, boolsOf, dNext, dSeq, dSet, dRet, dRetN, dIf, dDrop, dBreak, dCont, dVar, dC, dCons, dNil, dCB, dCall, dOp, dUn, dTest, dTru, dAnd, dOr, dNot, dAndV, dOrV, dNotV, dIfE, dTup, dLst, dLstO, dFor, dLc, dLcO, dAsg, dgName, dgTup, dgCons, dgNil, dgSub, dMeth, dChain, dIsN, isNP, DL.isNon, truD, dYes, dSl, dNoPart, dPart, dwSeq, dwRng1, dwRng2, dwipe, addP, subP, mulP, fdivP, modP, powP, negP, cmpP, eqP, neP, ixP, lenP, absP, intP, tupleP, listP, listOP, sp1, sp2, sp3, sp4, List.map_cons, List.map_nil, List.replicate_zero, List.replicate_succ, List.length_cons, List.length_nil, List.cons_append, List.nil_append, List.append_nil, List.getElem?_cons_zero, List.getElem?_cons_succ, List.set_cons_zero, List.set_cons_succ, Nat.reduceSub, Nat.reduceAdd, seqOf_tup, seqOf_lst, lstOf_lst, lstOf_put, seqOf_put, put_same, put_put, atI_0, atI_1, atI_2, atI_3, atI_4, ixN_0, ixN_1, ixN_2, ixN_4, Nat.reduceLeDiff, Int.reduceEq, Int.reduceLT, Int.reduceLE, decide_true, decide_false, eq_self, if_true, if_false, Bool.false_eq_true, Bool.not_true, Bool.not_false, reduceIte, Option.bind, Option.map, List.all_cons, List.all_nil, id]
        simp only [isCell] at q
        simpa [Bool.and_assoc] using q
    · rw [isCell_len hl] at q
      have : ¬ ((xs.length : Int) = 3) := by omega
      simp only [beq_self_eq_true, Bool.true_or, decide_eq_false this, dNext, dSeq, dSet, dRet, dRetN, dIf, dDrop, dBreak, dCont, dVar, dC, dCons, dNil, dCB, dCall, dOp, dUn, dTest, dTru, dAnd, dOr, dNot, dAndV, dOrV, dNotV, dIfE, dTup, dLst, dLstO, dFor, dLc, dLcO, dAsg, dgName, dgTup, dgCons, dgNil, dgSub, dMeth, dChain, dIsN, isNP, DL.isNon, truD, dYes, dSl, dNoPart, dPart, dwSeq, dwRng1, dwRng2, dwipe, addP, subP, mulP, fdivP, modP, powP, negP, cmpP, eqP, neP, ixP, lenP, absP, intP, tupleP, listP, listOP, sp1, sp2, sp3, sp4, List.map_cons, List.map_nil, List.replicate_zero, List.replicate_succ, List.length_cons, List.length_nil, List.cons_append, List.nil_append, List.append_nil, List.getElem?_cons_zero, List.getElem?_cons_succ, List.set_cons_zero, List.set_cons_succ, Nat.reduceSub, Nat.reduceAdd, seqOf_tup, seqOf_lst, lstOf_lst, lstOf_put, seqOf_put, put_same, put_put, atI_0, atI_1, atI_2, atI_3, atI_4, ixN_0, ixN_1, ixN_2, ixN_4, Nat.reduceLeDiff, Int.reduceEq, Int.reduceLT, Int.reduceLE, decide_true, decide_false, eq_self, if_true, if_false, Bool.false_eq_true, Bool.not_true, Bool.not_false, reduceIte]
      exact q
  | ref b => cases hp
  | obj C n xs => cases hp
  | ty n => cases hp
  | dK a b => cases hp
  | dT a b => cases hp
  | _ =>
    simp only [dNext, dSeq, dSet, dRet, dRetN, dIf, dDrop, dBreak, dCont, dVar, dC, dCons, dNil, dCB, dCall, dOp, dUn, dTest, dTru, dAnd, dOr, dNot, dAndV, dOrV, dNotV, dIfE, dTup, dLst, dLstO, dFor, dLc, dLcO, dAsg, dgName, dgTup, dgCons, dgNil, dgSub, dMeth, dChain, dIsN, isNP, DL.isNon, truD, dYes, dSl, dNoPart, dPart, dwSeq, dwRng1, dwRng2, dwipe, addP, subP, mulP, fdivP, modP, powP, negP, cmpP, eqP, neP, ixP, lenP, absP, intP, tupleP, listP, listOP, sp1, sp2, sp3, sp4, List.map_cons, List.map_nil, List.replicate_zero, List.replicate_succ, List.length_cons, List.length_nil, List.cons_append, List.nil_append, List.append_nil, List.getElem?_cons_zero, List.getElem?_cons_succ, List.set_cons_zero, List.set_cons_succ, Nat.reduceSub, Nat.reduceAdd, seqOf_tup, seqOf_lst, lstOf_lst, lstOf_put, seqOf_put, put_same, put_put, atI_0, atI_1, atI_2, atI_3, atI_4, ixN_0, ixN_1, ixN_2, ixN_4, Nat.reduceLeDiff, Int.reduceEq, Int.reduceLT, Int.reduceLE, decide_true, decide_false, eq_self, if_true, if_false, Bool.false_eq_true, Bool.not_true, Bool.not_false, reduceIte]
    exact isi_of rfl rfl q
/-- beside -/
def sp_beside : DSp := sp1 fun d S Q _ => ∃ c : C3, d = cD c ∧ Q (.lst ((besideC c).map cD)) S
theorem sp_len_beside : ∀ ds S Q E, sp_beside ds S Q E → ds.length = 1 := sp1_len
theorem ok_beside (T : Txt K mg C a fd)  : DFn P w K mg base 1 (a 2) (fd 2) ["cell"] sp_beside := by
  refine dfn_of T.F_beside sc_beside sp_len_beside (fun cdv A outer s B Ed hr hgd => ?_)
  have am : Amb (A.deeper (envOfC "beside" (defScope s_beside) s.heap.objs.size (a 2) cdv)) 0 := ⟨hr, hgd⟩
  refine ⟨_, (dss_cons (ds_asg (de_var 0) (dg_tup (n := 3) rfl (dgs_cons (dg_name 1 sc_beside.nd) (dgs_cons (dg_name 2 sc_beside.nd) (dgs_cons (dg_name 3 sc_beside.nd) dgs_nil)))))
    (dss_one (ds_ret (de_lst (da_cons (de_tup (da_cons (de_sub (de_var 1) de_int) (da_cons (de_var 2) (da_cons (de_var 3) da_nil)))) (da_cons (de_tup (da_cons (de_var 1) (da_cons (de_sub (de_var 2) de_int) (da_cons (de_var 3) da_nil)))) (da_cons (de_tup (da_cons (de_var 1) (da_cons (de_var 2) (da_cons (de_sub (de_var 3) de_int) da_nil)))) (da_cons (de_tup (da_cons (de_var 1) (da_cons (de_var 2) (da_cons (de_add (de_var 3) de_int) da_nil)))) (da_cons (de_tup (da_cons (de_var 1) (da_cons (de_add (de_var 2) de_int) (da_cons (de_var 3) da_nil)))) (da_cons (de_tup (da_cons (de_add (de_var 1) de_int) (da_cons (de_var 2) (da_cons (de_var 3) da_nil)))) da_nil)))))))))), ?_⟩
  intro ds Q h
  obtain ⟨d, rfl, c, rfl, q⟩ := sp1_get h
  have q := lows_same q
  unfold cD
  simp!
  refine ⟨trivial, szL (by decide), szL (by decide), szL (by decide), szL (by decide), szL (by decide), szL (by decide), szL (by decide), q⟩
/-- hang_together: of different cells -/
def sp_hang_together : DSp := sp1 fun d S Q _ => ∃ cs : List C3, cellsD d cs ∧ cs ≠ [] ∧ cs.Nodup ∧ cs.length ≤ 100000 ∧ Q (.bl (hangs cs)) S
theorem sp_len_hang_together : ∀ ds S Q E, sp_hang_together ds S Q E → ds.length = 1 := sp1_len
theorem ok_hang_together (T : Txt K mg C a fd) (G_beside : DFn P w K mg base 1 (a 2) (fd 2) ["cell"] sp_beside) : DFn P w K mg base 2 (a 3) (fd 3) ["cells"] sp_hang_together := by
  refine dfn_of T.F_hang_together sc_hang_together sp_len_hang_together (fun cdv A outer s B Ed hr hgd => ?_)
  have am : Amb (A.deeper (envOfC "hang_together" (defScope s_hang_together) s.heap.objs.size (a 3) cdv)) 1 := ⟨hr, hgd⟩
  refine ⟨_, (dss_cons (ds_set 1 sc_hang_together.nd (de_lstO (da_cons (de_ix (de_var 0) de_int) da_nil)))
    (dss_cons (ds_setDcS 2 5 T.nc am rfl sc_hang_together.nd (sw_dict rfl rfl rfl (by decide +kernel)) (de_slice (de_var 0) (do_some de_int) do_none) (blkOk_by (own := [("cell", 5)]) (N := N_hang_together) (sc := (defScope s_hang_together)) (by decide +kernel)) (by decide) (fun _ _ _ _ _ => vg_name 5 sc_hang_together.nd) (fun _ _ _ _ _ => vv_name 5))
    (dss_cons (ds_set 3 sc_hang_together.nd de_int)
    (dss_cons (ds_while (passes_of rfl) (dt_cmp1 cd_lt (de_var 3) (de_callB call_len cad_len rfl T.m_len bt_len (da_cons (de_var 1) da_nil)))
    (dss_cons (ds_for (passes_of rfl) rfl (di_seq (de_call G_beside (am.room.mono (by decide)) am.guards rfl T.g_beside T.F_beside.kp T.b_beside .nil closed_nil dtk_body (da_cons (de_ix (de_var 1) (de_var 3)) da_nil))) (dg_name 4 sc_hang_together.nd)
    (dss_one (ds_if (dt_cmp1 (cd_inT T.nc am) (de_var 4) (de_var 2))
    (dss_cons (ds_delT T.nc am (de_var 2) (de_var 4))
    (dss_one (ds_expr (de_append (de_var 1) (da_cons (de_var 4) da_nil)))))
    dss_nil)))
    (dss_one (ds_augAdd 3 sc_hang_together.nd de_int))))
    (dss_one (ds_ret (de_cmp1 (cd_eq am) (de_callB call_len_dT cad_lenT rfl T.m_len bt_len (da_cons (de_var 2) da_nil)) de_int))))))), ?_⟩
  intro ds Q h
  obtain ⟨d, rfl, cs, hd, ne, nd, hl, q⟩ := sp1_get h
  obtain ⟨c0, cr, rfl⟩ := List.exists_cons_of_ne_nil ne
  have hix : ∀ (S : Sto) (Q : DQ), Q (cD c0) S → ixP d (.int 0) S Q := fun S Q q => by
    rcases hd with rfl | rfl
    · rw [zo_ixT, List.map_cons, atI_0]; exact q
    · rw [zo_ixL, List.map_cons, atI_0]; exact q
  have hsl : ∀ (S : Sto) (Q : DQ), (∀ d', seqOf S d' = some (cr.map cD) → Q d' S) → slP d (some 1) none S Q := fun S Q q => by
    rcases hd with rfl | rfl
    · rw [slP_tup, cutD_from (by decide)]; exact q _ rfl
    · rw [slP_lst, cutD_from (by decide)]; exact q _ rfl
  simp!
  refine hix _ _ ?_
  simp!
  refine ⟨szL (by decide), fun p hp => ⟨by decide, hsl _ _ fun d' hd' => ⟨cr, hd', (List.nodup_cons.mp nd).2, fun p2 hp2 => ?_⟩⟩⟩
  have n12 : p2 ≠ p := fun e => by rw [e, put_same] at hp2; cases hp2
  have hB2 : B.S p2 = none := by rw [put_ne n12] at hp2; exact hp2
  generalize hcs : c0 :: cr = cs at nd hl q
  simp!
  refine ⟨fun env S => ∃ (F L : List C3) (pl : Nat) (x4 : Option D), env = [some d, some (.ref p), some (.ref p2), some (.int pl), x4, none] ∧ S p = some (.lst (F.map cD)) ∧ S p2 = some (.dT (L.map kC) (L.map fun _ => .bl true)) ∧ Sub B.S S ∧ Srch cs c0 F L ∧ pl ≤ F.length ∧ ∀ j b, j < pl → F[j]? = some b → Done cs F b,
    fun env _ => match env with
      | [_, _, _, some (.int k), _, _] => cs.length + 1 - k.toNat
      | _ => 0, ?_, ?_⟩
  · refine ⟨[c0], cr, 0, none, rfl, by rw [put_ne n12.symm, put_same]; rfl, by rw [put_same], sub_put (sub_put Sub.refl hp) hB2, ⟨by rw [← hcs]; exact List.Perm.refl _, by simp, fun b hb => by rw [List.mem_singleton.mp hb]; exact .refl⟩, Nat.zero_le _, fun j b h => absurd h (Nat.not_lt_zero _)⟩
  · rintro _ S ⟨F, L, pl, x4, rfl, hF, hL, sb, sr, hpl, hdone⟩
    have hlen : F.length ≤ cs.length := by have := sr.perm.length_eq; rw [List.length_append] at this; omega
    simp!
    refine zo_lenR hF ?_
    simp!
    by_cases lt : pl < F.length
    · rw [decide_eq_true (by rw [List.length_map]; omega)]
      simp!
      obtain ⟨b, hb⟩ : ∃ b, F[pl]? = some b := ⟨F[pl], List.getElem?_eq_getElem lt⟩
      refine zo_ixR hF (zIx_nat rfl (by rw [List.getElem?_map, hb]; rfl) ?_)
      simp!
      refine ⟨b, rfl, ?_⟩
      simp!
      refine for_inv (fun n env S' => ∃ (F' L' : List C3) (x4' : Option D), env = [some d, some (.ref p), some (.ref p2), some (.int pl), x4', none] ∧ S' p = some (.lst (F'.map cD)) ∧ S' p2 = some (.dT (L'.map kC) (L'.map fun _ => .bl true)) ∧ Sub B.S S' ∧ Srch cs c0 F' L' ∧ (∃ G, F' = F ++ G) ∧ ∀ j c, j < n → (besideC b)[j]? = some c → c ∈ cs → c ∈ F') ⟨F, L, x4, rfl, hF, hL, sb, sr, ⟨[], by simp⟩, fun j c h => absurd h (Nat.not_lt_zero _)⟩ ?_ ?_
      · rintro n dc _ S' Z hdc ⟨F', L', x4', rfl, hF', hL', sb', sr', ⟨G, hG⟩, hn⟩ hZ
        obtain ⟨c, hc, rfl⟩ : ∃ c, (besideC b)[n]? = some c ∧ cD c = dc := by
          rw [List.getElem?_map] at hdc
          cases e : (besideC b)[n]? with
          | none => rw [e] at hdc; cases hdc
          | some c => rw [e] at hdc; cases hdc; exact ⟨c, rfl, rfl⟩
        have hd1 : dist b c = 1 := mem_besideC.mp (List.mem_of_getElem? hc)
        have hbF : b ∈ F' := by rw [hG]; exact List.mem_append_left _ (List.mem_of_getElem? hb)
        refine ⟨trivial, ?_⟩
        simp!
        refine inT_do hL' ?_
        rw [hasK_cells]
        by_cases hcL : c ∈ L'
        · rw [decide_eq_true hcL]
          simp!
          refine del_do hL' (by rw [hasK_cells]; exact decide_eq_true hcL) ?_
          simp!
          have n21 : p ≠ p2 := n12.symm
          have hF2 : put S' p2 (.dT (lessK (kC c) (L'.map kC)) (keepT (kC c) (L'.map kC) (L'.map fun _ => .bl true))) p = some (.lst (F'.map cD)) := by rw [put_ne n21]; exact hF'
          refine ⟨by unfold tyD; simp only [hF2], zo_append (xs := F'.map cD) hF2 ?_ ?_⟩
          · rw [List.length_map]; have := sr'.perm.length_eq; rw [List.length_append] at this; have := sizeLine_n; omega
          simp!
          refine hZ _ _ ⟨F' ++ [c], L'.filter fun b => decide (b ≠ c), _, rfl, by rw [put_same, List.map_append]; rfl, ?_, sub_put (sub_put sb' hB2) hp, sr'.move nd hcL hbF hd1, ⟨G ++ [c], by rw [hG, List.append_assoc]⟩, fun j c' hj hc' hcs' => ?_⟩
          · rw [put_ne n12, put_same, lessK_cells]
            have := keep_true (kC c) (fun _ => D.bl true) (L'.map kC)
            rw [lessK_cells, List.map_map, List.map_map] at this
            exact congrArg (fun z => some (O.dT ((L'.filter fun b => decide (b ≠ c)).map kC) z)) this
          · rcases Nat.lt_succ_iff_lt_or_eq.mp hj with hj | rfl
            · exact List.mem_append_left _ (hn j c' hj hc' hcs')
            · rw [hc] at hc'; cases hc'; exact List.mem_append_right _ (List.mem_singleton.mpr rfl)
        · rw [decide_eq_false hcL]
          simp!
          refine hZ _ _ ⟨F', L', _, rfl, hF', hL', sb', sr', ⟨G, hG⟩, fun j c' hj hc' hcs' => ?_⟩
          rcases Nat.lt_succ_iff_lt_or_eq.mp hj with hj | rfl
          · exact hn j c' hj hc' hcs'
          · rw [hc] at hc'; cases hc'
            rcases List.mem_append.mp (sr'.perm.mem_iff.mpr hcs') with h | h
            · exact h
            · exact absurd h hcL
      · rintro _ S' ⟨F', L', x4', rfl, hF', hL', sb', sr', ⟨G, hG⟩, hn⟩
        refine ⟨trivial, ?_⟩
        refine aug_do rfl ?_
        simp!
        have hlF : F'.length = F.length + G.length := by rw [hG, List.length_append]
        refine ⟨⟨F', L', pl + 1, x4', rfl, hF', hL', sb', sr', by omega, fun j b' hj hb' c hcs hd => ?_⟩, ?_⟩
        · rcases Nat.lt_succ_iff_lt_or_eq.mp hj with hj | rfl
          · have : F[j]? = some b' := by rw [hG, List.getElem?_append_left (by omega)] at hb'; exact hb'
            rw [hG]; exact List.mem_append_left _ (hdone j b' hj this c hcs hd)
          · have : F[j]? = some b' := by rw [hG, List.getElem?_append_left (by omega)] at hb'; exact hb'
            rw [hb] at this; cases this
            obtain ⟨i, hi⟩ := List.mem_iff_getElem?.mp (mem_besideC.mpr hd)
            refine hn i c ?_ hi hcs
            rw [List.length_map]; exact (List.getElem?_eq_some_iff.mp hi).1
        · show cs.length + 1 - ((pl : Int) + 1).toNat < cs.length + 1 - (pl : Int).toNat
          omega
    · rw [decide_eq_false (by rw [List.length_map]; omega)]
      simp!
      refine lenT_do hL ?_
      simp!
      obtain rfl : pl = F.length := by omega
      have e := sr.end_ nd fun b hb => by
        obtain ⟨j, hj⟩ := List.mem_iff_getElem?.mp hb
        exact hdone j b (List.getElem?_eq_some_iff.mp hj).1 hj
      have e2 : decide ((((L.map kC).length : Nat) : Int) = 0) = hangs cs := by
        rw [← e, List.length_map]
        exact decide_eq_decide.mpr (by omega)
      rw [e2]
      exact lows_sub sb q
/-- is_solid -/
def inBox (c : C3) : Prop := (0 ≤ c.1 ∧ c.1 ≤ 15) ∧ (0 ≤ c.2.1 ∧ c.2.1 ≤ 15) ∧ 0 ≤ c.2.2 ∧ c.2.2 ≤ 15
structure SolidC (cs : List C3) : Prop where
  ne : cs ≠ []
  few : cs.length ≤ 40
  box : ∀ c ∈ cs, inBox c
  asc : Asc cs
  conn : Conn cs
def isSolidP (d : D) : Prop := ∃ cs : List C3, d = .tup (cs.map cD) ∧ SolidC cs
noncomputable def isSolid (d : D) : Bool := open Classical in decide (isSolidP d)
theorem isSolid_yes {cs : List C3} (h : SolidC cs) : isSolid (.tup (cs.map cD)) = true := by
  classical
  unfold isSolid
  exact decide_eq_true ⟨cs, rfl, h⟩
theorem isSolid_no {d : D} (h : ¬ isSolidP d) : isSolid d = false := by
  classical
  unfold isSolid
  exact decide_eq_false h
theorem cDs_inj : ∀ {a b : List C3}, a.map cD = b.map cD → a = b
  | [], [], _ => rfl
  | [], _ :: _, h => by cases h
  | _ :: _, [], h => by cases h
  | x :: xs, y :: ys, h => by
    rw [List.map_cons, List.map_cons] at h
    injection h with h1 h2
    rw [cD_inj h1, cDs_inj h2]
theorem isSolid_cells {cs : List C3} : isSolid (.tup (cs.map cD)) = true ↔ SolidC cs := by
  classical
  unfold isSolid
  rw [decide_eq_true_eq]
  constructor
  · rintro ⟨cs', e, h⟩
    injection e with e
    rw [cDs_inj e]; exact h
  · exact fun h => ⟨cs, rfl, h⟩
theorem isCell_cD {d : D} (h : isCell d = true) : ∃ c, d = cD c ∧ inBox c := by
  unfold isCell at h
  split at h
  · rename_i x y z
    simp only [Bool.and_eq_true] at h
    have g : ∀ {d : D}, okCoord d = true → ∃ i, d = .int i ∧ 0 ≤ i ∧ i ≤ 15 := fun {d} h => by
      cases d with
      | int i => simp only [okCoord, Bool.and_eq_true, decide_eq_true_eq] at h; exact ⟨i, rfl, h.1, h.2⟩
      | _ => cases h
    obtain ⟨i, rfl, i0, i1⟩ := g h.1
    obtain ⟨j, rfl, j0, j1⟩ := g h.2.1
    obtain ⟨k, rfl, k0, k1⟩ := g h.2.2
    exact ⟨(i, j, k), rfl, ⟨i0, i1⟩, ⟨j0, j1⟩, k0, k1⟩
  · cases h
theorem isCell_box {c : C3} (h : inBox c) : isCell (cD c) = true := by
  obtain ⟨⟨h0, h1⟩, ⟨h2, h3⟩, h4, h5⟩ := h
  simp [isCell, cD, okCoord, h0, h1, h2, h3, h4, h5]
theorem cells_of_all : ∀ {xs : List D}, (∀ x ∈ xs, isCell x = true) → ∃ cs : List C3, xs = cs.map cD ∧ ∀ c ∈ cs, inBox c
  | [], _ => ⟨[], rfl, fun c h => (List.not_mem_nil h).elim⟩
  | x :: xs, h => by
    obtain ⟨c, rfl, hc⟩ := isCell_cD (h x List.mem_cons_self)
    obtain ⟨cs, rfl, hcs⟩ := cells_of_all (xs := xs) fun y hy => h y (List.mem_cons_of_mem _ hy)
    refine ⟨c :: cs, rfl, fun b hb => ?_⟩
    rcases List.mem_cons.mp hb with rfl | hb
    · exact hc
    · exact hcs b hb
theorem cLt_trans {a b c : C3} (h1 : cLt a b = true) (h2 : cLt b c = true) : cLt a c = true := by
  rw [cLt_iff] at h1 h2 ⊢
  omega
theorem asc_iff {cs : List C3} : Asc cs ↔ ∀ k a b, cs[k]? = some a → cs[k + 1]? = some b → cLt a b = true := by
  constructor
  · intro h k a b ha hb
    have := List.pairwise_iff_getElem.mp h k (k + 1) (List.getElem?_eq_some_iff.mp ha).1 (List.getElem?_eq_some_iff.mp hb).1 (Nat.lt_succ_self k)
    rw [(List.getElem?_eq_some_iff.mp ha).2, (List.getElem?_eq_some_iff.mp hb).2] at this
    exact this
  · intro h
    refine List.pairwise_iff_getElem.mpr fun i j hi hj hij => ?_
    have g : ∀ n, ∀ (h2 : i + 1 + n < cs.length), cLt cs[i] cs[i + 1 + n] = true := by
      intro n
      induction n with
      | zero => intro h2; exact h i _ _ (List.getElem?_eq_getElem hi) (List.getElem?_eq_getElem h2)
      | succ n ih =>
        intro h2
        have h3 : i + 1 + n < cs.length := by omega
        exact cLt_trans (ih h3) (h (i + 1 + n) _ _ (List.getElem?_eq_getElem h3) (List.getElem?_eq_getElem h2))
    have e : j = i + 1 + (j - i - 1) := by omega
    have := g (j - i - 1) (by omega)
    simpa only [← e] using this
def ascB (cs : List C3) (k : Nat) : Bool := match cs[k]?, cs[k + 1]? with
  | some a, some b => cLt a b
  | _, _ => true
theorem ascB_all {cs : List C3} : ((List.range (cs.length - 1)).all (ascB cs)) = true ↔ Asc cs := by
  rw [asc_iff, List.all_eq_true]
  constructor
  · intro h k a b ha hb
    have hk : k + 1 < cs.length := (List.getElem?_eq_some_iff.mp hb).1
    have := h k (List.mem_range.mpr (by omega))
    unfold ascB at this
    simp only [ha, hb] at this
    exact this
  · intro h k hk
    have hk := List.mem_range.mp hk
    unfold ascB
    rw [List.getElem?_eq_getElem (show k < cs.length by omega), List.getElem?_eq_getElem (show k + 1 < cs.length by omega)]
    exact h k _ _ (List.getElem?_eq_getElem _) (List.getElem?_eq_getElem _)
theorem bools_all {α : Type} (f : α → Bool) (xs : List α) : boolsOf (xs.map fun x => D.bl (f x)) = some (xs.map f) := by
  have e : (xs.map fun x => D.bl (f x)) = (xs.map f).map D.bl := by rw [List.map_map]; rfl
  rw [e, boolsOf_map]
theorem all_do {α : Type} (f : α → Bool) {xs : List α} {S : Sto} {Q : DQ} (q : Q (.bl (xs.all f)) S) : allP [.lst (xs.map fun x => D.bl (f x))] S Q := by
  unfold allP
  simp only [lstOf_lst, Option.bind, bools_all]
  rw [List.all_map]
  exact q
theorem any_do {α : Type} (f : α → Bool) {xs : List α} {S : Sto} {Q : DQ} (q : Q (.bl (xs.any f)) S) : anyP [.lst (xs.map fun x => D.bl (f x))] S Q := by
  unfold anyP
  simp only [lstOf_lst, Option.bind, bools_all]
  rw [List.any_map]
  exact q
/-- [f(k) for k in range(n)] -/
theorem lc_upTo {i : Nat} {te : ME} {ok : Sto → Prop} {env0 : DEnv} {Q : List D → Sto → Prop} (f : Nat → D) {S : Sto} {n : Nat} (ho : ok S) (h : ∀ k, k < n → ∀ Q : DQ, Q (f k) S → te (env0.set i (some (.int k))) S Q) (q : Q ((List.range n).map f) S) :
    lcR (dgName i) dYes te ok env0 Q (DL.upTo 0 n) [] S := by
  have e : DL.upTo 0 n = (List.range n).map fun k => D.int (k : Nat) := by
    unfold DL.upTo
    refine List.map_congr_left fun k _ => ?_
    congr 1; omega
  rw [e]
  have g : ∀ (ks : List Nat) (acc : List D), (∀ k ∈ ks, ∀ Q : DQ, Q (f k) S → te (env0.set i (some (.int k))) S Q) → Q (acc ++ ks.map f) S → lcR (dgName i) dYes te ok env0 Q (ks.map fun k => D.int (k : Nat)) acc S := by
    intro ks
    induction ks with
    | nil => intro acc _ q; exact ⟨ho, by rw [List.map_nil, List.append_nil] at q; exact q⟩
    | cons k ks ih =>
      intro acc h q
      refine ⟨ho, h k List.mem_cons_self _ ?_⟩
      refine ih _ (fun x hx => h x (List.mem_cons_of_mem _ hx)) ?_
      rw [List.append_assoc]
      exact q
  exact g _ [] (fun k hk => h k (List.mem_range.mp hk)) q
def sp_is_solid : DSp := sp1 fun d S Q _ => plain d = true ∧ (∀ xs, d = .tup xs → xs.length ≤ 100000) ∧ Q (.bl (isSolid d)) S
theorem sp_len_is_solid : ∀ ds S Q E, sp_is_solid ds S Q E → ds.length = 1 := sp1_len
theorem ok_is_solid (T : Txt K mg C a fd) (G_hang_together : DFn P w K mg base 2 (a 3) (fd 3) ["cells"] sp_hang_together) (G_is_cell : DFn P w K mg base 2 (a 1) (fd 1) ["value"] sp_is_cell) : DFn P w K mg base 3 (a 4) (fd 4) ["value"] sp_is_solid := by
  refine dfn_of T.F_is_solid sc_is_solid sp_len_is_solid (fun cdv A outer s B Ed hr hgd => ?_)
  have am : Amb (A.deeper (envOfC "is_solid" (defScope s_is_solid) s.heap.objs.size (a 4) cdv)) 2 := ⟨hr, hgd⟩
  refine ⟨_, (dss_cons (ds_if (dw_t (dw_or (dt_not (dt_tru (de_callB call_isi cad_isi rfl T.m_isinstance bt_isinstance (da_cons (de_var 0) (da_cons (de_ty rfl T.m_tuple bt_tuple) da_nil))))) (dw_or1 (dt_not (dt_chain cd_le cd_le de_int (de_callB call_len cad_len rfl T.m_len bt_len (da_cons (de_var 0) da_nil)) (de_globI rfl T.c_CELLS_MOST))))))
    (dss_one (ds_ret de_bl))
    dss_nil)
    (dss_cons (ds_if (dt_not (dt_tru (de_callB (cr_all rfl) cad_all rfl T.m_all bt_all (da_cons (de_lc rfl sc_is_solid.nd (di_seq (de_var 0)) (blkOk_by (own := [("cell", 1)]) (N := N_is_solid) (sc := (defScope s_is_solid)) (by decide +kernel))
      (fun _ _ _ _ _ _ => (dgv_name 1 sc_is_solid.nd)) (fun _ _ _ _ _ _ => dts_nil) (fun _ _ _ _ _ _ => (de_call G_is_cell (am.room.mono (by decide)) am.guards rfl T.g_is_cell T.F_is_cell.kp T.b_is_cell .nil closed_nil dtk0 (da_cons (de_var 1) da_nil)))) da_nil))))
    (dss_one (ds_ret de_bl))
    dss_nil)
    (dss_cons (ds_if (dt_not (dt_tru (de_callB (cr_all rfl) cad_all rfl T.m_all bt_all (da_cons (de_lc rfl sc_is_solid.nd (di_rng1 rfl T.m_range (da_cons (de_sub (de_callB call_len cad_len rfl T.m_len bt_len (da_cons (de_var 0) da_nil)) de_int) da_nil)) (blkOk_by (own := [("k", 2)]) (N := N_is_solid) (sc := (defScope s_is_solid)) (by decide +kernel))
      (fun _ _ _ _ _ _ => (dgv_name 2 sc_is_solid.nd)) (fun _ _ _ _ _ _ => dts_nil) (fun _ _ _ _ _ _ => (de_cmp1 (cd_ltT am) (de_ix (de_var 0) (de_var 2)) (de_ix (de_var 0) (de_add (de_var 2) de_int))))) da_nil))))
    (dss_one (ds_ret de_bl))
    dss_nil)
    (dss_one (ds_ret (de_call G_hang_together (am.room.mono (by decide)) am.guards rfl T.g_hang_together T.F_hang_together.kp T.b_hang_together .nil closed_nil dtk_body (da_cons (de_var 0) da_nil))))))), ?_⟩
  intro ds Q h
  obtain ⟨d, rfl, hp, hz, q⟩ := sp1_get h
  have q := lows_same q
  have other : (∀ xs, d ≠ .tup xs) → isSolid d = false := fun h => isSolid_no fun ⟨cs, e, _⟩ => h _ e
  cases d with
  | tup xs =>
    have hz := hz xs rfl
    simp!
    refine isi_yes rfl rfl ?_
    simp!
    by_cases hl : 1 ≤ xs.length ∧ xs.length ≤ 40
    · rw [decide_eq_true (show (1 : Int) ≤ (xs.length : Int) by omega)]
      simp!
      rw [decide_eq_true (show (xs.length : Int) ≤ 40 by omega)]
      simp!
      refine lc_map (fun d => .bl (isCell d)) trivial _ _ (fun d hd Q q => ?_) ?_
      · simp!
        exact ⟨plainAll_iff.mp hp d hd, q⟩
      · simp!
        refine all_do _ ?_
        cases hc : xs.all isCell with
        | false =>
          simp!
          rw [isSolid_no] at q
          · exact q
          · rintro ⟨cs, e, sc⟩
            injection e with e
            subst e
            rw [← Bool.not_eq_true] at hc
            refine hc (List.all_eq_true.mpr fun x hx => ?_)
            obtain ⟨c, hcm, rfl⟩ := List.mem_map.mp hx
            exact isCell_box (sc.box c hcm)
        | true =>
          simp!
          obtain ⟨cs, rfl, hb⟩ := cells_of_all (List.all_eq_true.mp hc)
          rw [List.length_map] at hl
          have e1 : (((cs.map cD).length : Int) - 1).toNat = cs.length - 1 := by rw [List.length_map]; omega
          refine ⟨by rw [List.length_map]; omega, by rw [List.length_map]; omega, ?_⟩
          rw [e1]
          refine lc_upTo (fun k => .bl (ascB cs k)) trivial (fun k hk Q q => ?_) ?_
          · simp!
            obtain ⟨a, ha⟩ : ∃ a, cs[k]? = some a := ⟨cs[k]'(by omega), List.getElem?_eq_getElem (by omega)⟩
            obtain ⟨b, hbb⟩ : ∃ b, cs[k + 1]? = some b := ⟨cs[k + 1]'(by omega), List.getElem?_eq_getElem (by omega)⟩
            refine zIx_nat rfl (by rw [List.getElem?_map, ha]; rfl) ?_
            simp!
            refine zIx_nat (k := k + 1) (by omega) (by rw [List.getElem?_map, hbb]; rfl) ?_
            simp!
            refine ⟨cL a, cL b, rfl, rfl, ?_⟩
            have e : ascB cs k = HT.lexLt (cL a) (cL b) := by unfold ascB; simp only [ha, hbb]; rfl
            rw [← e]; exact q
          · simp!
            refine all_do _ ?_
            cases ha : (List.range (cs.length - 1)).all (ascB cs) with
            | false =>
              simp!
              rw [isSolid_no] at q
              · exact q
              · rintro ⟨cs', e, sc⟩
                injection e with e
                have e := cDs_inj e
                subst e
                rw [ascB_all.mpr sc.asc] at ha
                cases ha
            | true =>
              have asc := ascB_all.mp ha
              simp!
              refine ⟨cs, cellsD_tup, fun e => ?_, asc.nodup, by omega, ?_⟩
              · subst e; simp at hl
              · have e : hangs cs = isSolid (.tup (cs.map cD)) := by
                  rw [Bool.eq_iff_iff, hangs_iff, isSolid_cells]
                  exact ⟨fun h => ⟨fun e => by subst e; simp at hl, hl.2, hb, asc, h⟩, fun h => h.conn⟩
                rw [e]; exact q
    · have e : isSolid (.tup xs) = false := isSolid_no fun ⟨cs, e, sc⟩ => by
        injection e with e
        subst e
        refine hl ?_
        rw [List.length_map]
        exact ⟨List.length_pos_iff.mpr sc.ne, sc.few⟩
      rw [e] at q
      by_cases h1 : 1 ≤ xs.length
      · rw [decide_eq_true (show (1 : Int) ≤ (xs.length : Int) by omega)]
        simp!
        rw [decide_eq_false (show ¬ (xs.length : Int) ≤ 40 by omega)]
        simp!
        exact q
      · rw [decide_eq_false (show ¬ (1 : Int) ≤ (xs.length : Int) by omega)]
        simp!
        exact q
  | ref b => cases hp
  | obj C n xs => cases hp
  | ty n => cases hp
  | dK a b => cases hp
  | dT a b => cases hp
  | _ =>
    rw [other fun xs e => by cases e] at q
    simp!
    refine isi_of rfl rfl ?_
    first
    | exact q
    | (simp! [subTy]; exact q)
/-- the least and the greatest coordinates -/
def LoC (cs : List C3) (m : C3) : Prop := (∃ c ∈ cs, c.1 = m.1) ∧ (∃ c ∈ cs, c.2.1 = m.2.1) ∧ (∃ c ∈ cs, c.2.2 = m.2.2) ∧ ∀ c ∈ cs, m.1 ≤ c.1 ∧ m.2.1 ≤ c.2.1 ∧ m.2.2 ≤ c.2.2
def HiC (cs : List C3) (m : C3) : Prop := (∃ c ∈ cs, c.1 = m.1) ∧ (∃ c ∈ cs, c.2.1 = m.2.1) ∧ (∃ c ∈ cs, c.2.2 = m.2.2) ∧ ∀ c ∈ cs, c.1 ≤ m.1 ∧ c.2.1 ≤ m.2.1 ∧ c.2.2 ≤ m.2.2
def sp_extents : DSp := sp1 fun d S Q _ => ∃ cs : List C3, cellsD d cs ∧ cs ≠ [] ∧ ∀ lo hi, LoC cs lo → HiC cs hi → Q (.tup [cD lo, cD hi]) S
theorem sp_len_extents : ∀ ds S Q E, sp_extents ds S Q E → ds.length = 1 := sp1_len
theorem least_of {cs : List C3} (ne : cs ≠ []) (f : C3 → Int) : ∃ m : Int, (∃ c ∈ cs, f c = m) ∧ ∀ c ∈ cs, m ≤ f c := by
  induction cs with
  | nil => exact absurd rfl ne
  | cons c cs ih =>
    by_cases e : cs = []
    · subst e
      exact ⟨f c, ⟨c, by simp, rfl⟩, fun x hx => by rw [List.mem_singleton.mp hx]; exact Int.le_refl _⟩
    · obtain ⟨m, ⟨x, hx, e1⟩, h⟩ := ih e
      by_cases l : f c ≤ m
      · refine ⟨f c, ⟨c, by simp, rfl⟩, fun y hy => ?_⟩
        rcases List.mem_cons.mp hy with rfl | hy
        · exact Int.le_refl _
        · exact Int.le_trans l (h y hy)
      · refine ⟨m, ⟨x, List.mem_cons_of_mem _ hx, e1⟩, fun y hy => ?_⟩
        rcases List.mem_cons.mp hy with rfl | hy
        · omega
        · exact h y hy
theorem most_of {cs : List C3} (ne : cs ≠ []) (f : C3 → Int) : ∃ m : Int, (∃ c ∈ cs, f c = m) ∧ ∀ c ∈ cs, f c ≤ m := by
  obtain ⟨m, ⟨c, hc, e⟩, h⟩ := least_of ne fun c => -f c
  exact ⟨-m, ⟨c, hc, by omega⟩, fun x hx => by have := h x hx; omega⟩
theorem ok_extents (T : Txt K mg C a fd)  : DFn P w K mg base 1 (a 5) (fd 5) ["cells"] sp_extents := by
  refine dfn_of T.F_extents sc_extents sp_len_extents (fun cdv A outer s B Ed hr hgd => ?_)
  have am : Amb (A.deeper (envOfC "extents" (defScope s_extents) s.heap.objs.size (a 5) cdv)) 0 := ⟨hr, hgd⟩
  refine ⟨_, (dss_cons (ds_set 1 sc_extents.nd (de_callTy call_tuple_of cad_tuple rfl T.m_tuple bt_tuple (da_cons (de_lc rfl sc_extents.nd (di_rng1 rfl T.m_range (da_cons de_int da_nil)) (blkOk_by (own := [("axis", 3)]) (N := N_extents) (sc := (defScope s_extents)) (by decide +kernel))
      (fun _ _ _ _ _ _ => (dgv_name 3 sc_extents.nd)) (fun _ _ _ _ _ _ => dts_nil) (fun _ _ _ _ _ _ => (de_callB (cr_min rfl) cad_min rfl T.m_min bt_min (da_cons (de_lc rfl sc_extents.nd (di_seq (de_var 0)) (blkOk_by (own := [("cell", 4)]) (N := N_extents) (sc := (relS _ (defScope s_extents))) (by decide +kernel))
      (fun _ _ _ _ _ _ => (dgv_name 4 sc_extents.nd)) (fun _ _ _ _ _ _ => dts_nil) (fun _ _ _ _ _ _ => (de_ix (de_var 4) (de_var 3)))) da_nil)))) da_nil)))
    (dss_cons (ds_set 2 sc_extents.nd (de_callTy call_tuple_of cad_tuple rfl T.m_tuple bt_tuple (da_cons (de_lc rfl sc_extents.nd (di_rng1 rfl T.m_range (da_cons de_int da_nil)) (blkOk_by (own := [("axis", 3)]) (N := N_extents) (sc := (defScope s_extents)) (by decide +kernel))
      (fun _ _ _ _ _ _ => (dgv_name 3 sc_extents.nd)) (fun _ _ _ _ _ _ => dts_nil) (fun _ _ _ _ _ _ => (de_callB (cr_max rfl) cad_max rfl T.m_max bt_max (da_cons (de_lc rfl sc_extents.nd (di_seq (de_var 0)) (blkOk_by (own := [("cell", 4)]) (N := N_extents) (sc := (relS _ (defScope s_extents))) (by decide +kernel))
      (fun _ _ _ _ _ _ => (dgv_name 4 sc_extents.nd)) (fun _ _ _ _ _ _ => dts_nil) (fun _ _ _ _ _ _ => (de_ix (de_var 4) (de_var 3)))) da_nil)))) da_nil)))
    (dss_one (ds_ret (de_tup (da_cons (de_var 1) (da_cons (de_var 2) da_nil))))))), ?_⟩
  intro ds Q h
  obtain ⟨d, rfl, cs, hd, hne, q⟩ := sp1_get h
  simp!
  have low : ∀ k : Int, 0 ≤ k → k < 3 → ∃ m : Int, (∃ c ∈ cs, cAt c k = m) ∧ ∀ c ∈ cs, m ≤ cAt c k := fun k _ _ => least_of hne fun c => cAt c k
  have high : ∀ k : Int, 0 ≤ k → k < 3 → ∃ m : Int, (∃ c ∈ cs, cAt c k = m) ∧ ∀ c ∈ cs, cAt c k ≤ m := fun k _ _ => most_of hne fun c => cAt c k
  obtain ⟨l0, a0, b0⟩ := low 0 (by decide) (by decide)
  obtain ⟨l1, a1, b1⟩ := low 1 (by decide) (by decide)
  obtain ⟨l2, a2, b2⟩ := low 2 (by decide) (by decide)
  obtain ⟨m0, c0, d0⟩ := high 0 (by decide) (by decide)
  obtain ⟨m1, c1, d1⟩ := high 1 (by decide) (by decide)
  obtain ⟨m2, c2, d2⟩ := high 2 (by decide) (by decide)
  have q := q (l0, l1, l2) (m0, m1, m2) ⟨a0, a1, a2, fun c h => ⟨b0 c h, b1 c h, b2 c h⟩⟩ ⟨c0, c1, c2, fun c h => ⟨d0 c h, d1 c h, d2 c h⟩⟩
  have uniq : ∀ {f : C3 → Int} {m m' : Int}, (∃ c ∈ cs, f c = m) → (∀ c ∈ cs, m ≤ f c) → (∃ c ∈ cs, f c = m') → (∀ c ∈ cs, m' ≤ f c) → m' = m := fun {f m m'} ⟨c, hc, e⟩ h ⟨c', hc', e'⟩ h' => by
    have := h c' hc'
    have := h' c hc
    omega
  have uniq2 : ∀ {f : C3 → Int} {m m' : Int}, (∃ c ∈ cs, f c = m) → (∀ c ∈ cs, f c ≤ m) → (∃ c ∈ cs, f c = m') → (∀ c ∈ cs, f c ≤ m') → m' = m := fun {f m m'} ⟨c, hc, e⟩ h ⟨c', hc', e'⟩ h' => by
    have := h c' hc'
    have := h' c hc
    omega
  refine ⟨by decide, trivial, lc_axes (fun k => .int (if k = 0 then l0 else if k = 1 then l1 else l2)) trivial (fun k k0 k3 Q q => ?_) ?_⟩
  · simp!
    refine z_wSeq_cells hd ?_
    simp!
    refine lc_cells (fun c => .int (cAt c k)) trivial (fun c hc Q q => ?_) ?_
    · simp!
      exact cD_ix k0 k3 q
    · simp!
      refine min_do hne fun m e1 e2 => ?_
      obtain rfl | rfl | rfl : k = 0 ∨ k = 1 ∨ k = 2 := by omega
      · rw [uniq a0 b0 e1 e2]; exact q
      · rw [uniq a1 b1 e1 e2]; exact q
      · rw [uniq a2 b2 e1 e2]; exact q
  · simp!
    refine ⟨by decide, trivial, lc_axes (fun k => .int (if k = 0 then m0 else if k = 1 then m1 else m2)) trivial (fun k k0 k3 Q q => ?_) ?_⟩
    · simp!
      refine z_wSeq_cells hd ?_
      simp!
      refine lc_cells (fun c => .int (cAt c k)) trivial (fun c hc Q q => ?_) ?_
      · simp!
        exact cD_ix k0 k3 q
      · simp!
        refine max_do hne fun m e1 e2 => ?_
        obtain rfl | rfl | rfl : k = 0 ∨ k = 1 ∨ k = 2 := by omega
        · rw [uniq2 c0 d0 e1 e2]; exact q
        · rw [uniq2 c1 d1 e1 e2]; exact q
        · rw [uniq2 c2 d2 e1 e2]; exact q
    · simp!
      exact ⟨szL (by decide), lows_same q⟩
/-- moved -/
def sp_moved : DSp := sp2 fun d e S Q _ => ∃ (cs : List C3) (o : C3), cellsD d cs ∧ e = cD o ∧ Q (.tup ((cs.map (addC o)).map cD)) S
theorem sp_len_moved : ∀ ds S Q E, sp_moved ds S Q E → ds.length = 2 := sp2_len
theorem ok_moved (T : Txt K mg C a fd)  : DFn P w K mg base 1 (a 6) (fd 6) ["cells", "offset"] sp_moved := by
  refine dfn_of T.F_moved sc_moved sp_len_moved (fun cdv A outer s B Ed hr hgd => ?_)
  have am : Amb (A.deeper (envOfC "moved" (defScope s_moved) s.heap.objs.size (a 6) cdv)) 0 := ⟨hr, hgd⟩
  refine ⟨_, (dss_one (ds_ret (de_callTy call_tuple_of cad_tuple rfl T.m_tuple bt_tuple (da_cons (de_lc rfl sc_moved.nd (di_seq (de_var 0)) (blkOk_by (own := [("cell", 2)]) (N := N_moved) (sc := (defScope s_moved)) (by decide +kernel))
      (fun _ _ _ _ _ _ => (dgv_name 2 sc_moved.nd)) (fun _ _ _ _ _ _ => dts_nil) (fun _ _ _ _ _ _ => (de_callTy call_tuple_of cad_tuple rfl T.m_tuple bt_tuple (da_cons (de_lc rfl sc_moved.nd (di_rng1 rfl T.m_range (da_cons de_int da_nil)) (blkOk_by (own := [("axis", 3)]) (N := N_moved) (sc := (relS _ (defScope s_moved))) (by decide +kernel))
      (fun _ _ _ _ _ _ => (dgv_name 3 sc_moved.nd)) (fun _ _ _ _ _ _ => dts_nil) (fun _ _ _ _ _ _ => (de_add (de_ix (de_var 2) (de_var 3)) (de_ix (de_var 1) (de_var 3))))) da_nil)))) da_nil)))), ?_⟩
  intro ds Q h
  obtain ⟨d, e, rfl, cs, o, hd, rfl, q⟩ := sp2_get h
  simp!
  refine z_wSeq_cells hd ?_
  simp!
  refine lc_cells (fun c => cD (addC o c)) trivial (fun c hc Q q => ?_) ?_
  · simp!
    refine ⟨by decide, trivial, lc_axes (fun k => .int (cAt c k + cAt o k)) trivial (fun k k0 k3 Q q => ?_) ?_⟩
    · simp!
      refine cD_ix k0 k3 ?_
      simp!
      refine cD_ix k0 k3 ?_
      simp!
      exact q
    · simp!
      exact q
  · simp!
    refine lows_same ?_
    rw [List.map_map] at q
    exact q
/-- a cell turned -/
def sp_image_of : DSp := sp2 fun d e S Q _ => ∃ (c : C3) (t : T3), d = cD c ∧ e = tD t ∧ TOk t ∧ Q (cD (imgC t c)) S
theorem sp_len_image_of : ∀ ds S Q E, sp_image_of ds S Q E → ds.length = 2 := sp2_len
theorem ok_image_of (T : Txt K mg C a fd)  : DFn P w K mg base 1 (a 7) (fd 7) ["cell", "turn"] sp_image_of := by
  refine dfn_of T.F_image_of sc_image_of sp_len_image_of (fun cdv A outer s B Ed hr hgd => ?_)
  have am : Amb (A.deeper (envOfC "image_of" (defScope s_image_of) s.heap.objs.size (a 7) cdv)) 0 := ⟨hr, hgd⟩
  refine ⟨_, (dss_one (ds_ret (de_callTy call_tuple_of cad_tuple rfl T.m_tuple bt_tuple (da_cons (de_lc rfl sc_image_of.nd (di_seq (de_var 1)) (blkOk_by (own := [("axis", 2), ("sign", 3)]) (N := N_image_of) (sc := (defScope s_image_of)) (by decide +kernel))
      (fun _ _ _ _ _ _ => (dgv_tup (n := 2) rfl (dgsv_cons (dgv_name 2 sc_image_of.nd) (dgsv_cons (dgv_name 3 sc_image_of.nd) dgsv_nil)))) (fun _ _ _ _ _ _ => dts_nil) (fun _ _ _ _ _ _ => (de_mul (de_var 3) (de_ix (de_var 0) (de_var 2))))) da_nil)))), ?_⟩
  intro ds Q h
  obtain ⟨_, _, rfl, c, t, rfl, rfl, ⟨⟨a0, s0⟩, ⟨a1, s1⟩, ⟨a2, s2⟩⟩, q⟩ := sp2_get h
  simp! [tD]
  have sg : ∀ {x : Int}, x = 1 ∨ x = -1 → (-(2 ^ 64) < x ∧ x < 2 ^ 64) := fun {x} h => by omega
  simp! [z_lcG, z_lcG1, z_lcG2, z_lcGNil, pD]
  refine ⟨trivial, trivial, cD_ix a0.1 a0.2 ?_⟩
  simp! [z_lcG, z_lcG1, z_lcG2, z_lcGNil, pD]
  refine ⟨.inl (sg s0), trivial, trivial, cD_ix a1.1 a1.2 ?_⟩
  simp! [z_lcG, z_lcG1, z_lcG2, z_lcGNil, pD]
  refine ⟨.inl (sg s1), trivial, trivial, cD_ix a2.1 a2.2 ?_⟩
  simp! [z_lcG, z_lcG1, z_lcG2, z_lcGNil, pD]
  exact ⟨.inl (sg s2), trivial, lows_same q⟩
/-- solids turned together -/
def sp_turned_all : DSp := sp2 fun d e S Q _ => ∃ (css : List (List C3)) (t : T3), (∃ ds, seqOf S d = some ds ∧ AllCells ds css) ∧ e = tD t ∧ TOk t ∧ css.flatten ≠ [] ∧ css.flatten.length ≤ sizeLine ∧
  ∀ p, S p = none → Q (.ref p) (put S p (.lst ((turnAll t css).map fun cs => .tup (cs.map cD))))
theorem sp_len_turned_all : ∀ ds S Q E, sp_turned_all ds S Q E → ds.length = 2 := sp2_len
theorem loC_eq {cs : List C3} {lo : C3} (h : LoC cs lo) : lo = loC cs := by
  obtain ⟨⟨x0, m0, q0⟩, ⟨x1, m1, q1⟩, ⟨x2, m2, q2⟩, hall⟩ := h
  unfold loC
  rw [minI_eq (m := lo.1) (List.mem_map.mpr ⟨x0, m0, q0⟩) (fun x hx => by obtain ⟨c, hc, rfl⟩ := List.mem_map.mp hx; exact (hall c hc).1),
    minI_eq (m := lo.2.1) (List.mem_map.mpr ⟨x1, m1, q1⟩) (fun x hx => by obtain ⟨c, hc, rfl⟩ := List.mem_map.mp hx; exact (hall c hc).2.1),
    minI_eq (m := lo.2.2) (List.mem_map.mpr ⟨x2, m2, q2⟩) (fun x hx => by obtain ⟨c, hc, rfl⟩ := List.mem_map.mp hx; exact (hall c hc).2.2)]
theorem ok_turned_all (T : Txt K mg C a fd) (G_extents : DFn P w K mg base 1 (a 5) (fd 5) ["cells"] sp_extents) (G_image_of : DFn P w K mg base 1 (a 7) (fd 7) ["cell", "turn"] sp_image_of) (G_moved : DFn P w K mg base 1 (a 6) (fd 6) ["cells", "offset"] sp_moved) : DFn P w K mg base 2 (a 8) (fd 8) ["solids", "turn"] sp_turned_all := by
  refine dfn_of T.F_turned_all sc_turned_all sp_len_turned_all (fun cdv A outer s B Ed hr hgd => ?_)
  have am : Amb (A.deeper (envOfC "turned_all" (defScope s_turned_all) s.heap.objs.size (a 8) cdv)) 1 := ⟨hr, hgd⟩
  refine ⟨_, (dss_cons (ds_setLc 2 rfl sc_turned_all.nd (sw_true rfl rfl rfl (by decide +kernel)) (di_seq (de_var 0)) (blkOk_by (own := [("solid", 6)]) (N := N_turned_all) (sc := (defScope s_turned_all)) (by decide +kernel))
      (fun _ _ _ _ _ _ => (dgv_name 6 sc_turned_all.nd)) (fun _ _ _ _ _ _ => dts_nil) (fun _ _ _ _ _ _ => (de_lc rfl sc_turned_all.nd (di_seq (de_var 6)) (blkOk_by (own := [("cell", 8)]) (N := N_turned_all) (sc := (relS _ (defScope s_turned_all))) (by decide +kernel))
      (fun _ _ _ _ _ _ => (dgv_name 8 sc_turned_all.nd)) (fun _ _ _ _ _ _ => dts_nil) (fun _ _ _ _ _ _ => (de_call G_image_of (am.room.mono (by decide)) am.guards rfl T.g_image_of T.F_image_of.kp T.b_image_of .nil closed_nil dtk0 (da_cons (de_var 8) (da_cons (de_var 1) da_nil)))))))
    (dss_cons (ds_asg (de_call G_extents (am.room.mono (by decide)) am.guards rfl T.g_extents T.F_extents.kp T.b_extents .nil closed_nil dtk_body (da_cons (de_lc2 rfl sc_turned_all.nd (di_seq (de_var 2)) (blkOk_by (own := [("cells", 7), ("cell", 8)]) (N := N_turned_all) (sc := (defScope s_turned_all)) (by decide +kernel)) (vs1 := [8]) (by decide)
      (fun _ _ _ _ _ _ => (dgv_name 7 sc_turned_all.nd)) (fun _ _ _ _ _ _ => dts_nil) (fun _ _ _ _ _ _ => (di_seq (de_var 7))) (fun _ _ _ _ _ _ => (dgv_name 8 sc_turned_all.nd)) (fun _ _ _ _ _ _ => dts_nil) (fun _ _ _ _ _ _ => (de_var 8))) da_nil)) (dg_tup (n := 2) rfl (dgs_cons (dg_name 3 sc_turned_all.nd) (dgs_cons (dg_name 4 sc_turned_all.nd) dgs_nil))))
    (dss_cons (ds_set 5 sc_turned_all.nd (de_callTy call_tuple_of cad_tuple rfl T.m_tuple bt_tuple (da_cons (de_lc rfl sc_turned_all.nd (di_seq (de_var 3)) (blkOk_by (own := [("item", 9)]) (N := N_turned_all) (sc := (defScope s_turned_all)) (by decide +kernel))
      (fun _ _ _ _ _ _ => (dgv_name 9 sc_turned_all.nd)) (fun _ _ _ _ _ _ => dts_nil) (fun _ _ _ _ _ _ => (de_neg (de_var 9)))) da_nil)))
    (dss_one (ds_ret (de_lcO rfl sc_turned_all.nd (di_seq (de_var 2)) (blkOk_by (own := [("cells", 7)]) (N := N_turned_all) (sc := (defScope s_turned_all)) (by decide +kernel))
      (fun _ _ _ _ _ _ => (dgv_name 7 sc_turned_all.nd)) (fun _ _ _ _ _ _ => dts_nil) (fun _ _ _ _ _ _ => (de_callTy call_tuple_of cad_tuple rfl T.m_tuple bt_tuple (da_cons (de_callB cr_sortA cad_sort rfl T.m_sorted bt_sorted (da_cons (de_call G_moved (am.room.mono (by decide)) am.guards rfl T.g_moved T.F_moved.kp T.b_moved .nil closed_nil dtk0 (da_cons (de_var 7) (da_cons (de_var 5) da_nil))) da_nil)) da_nil))))))))), ?_⟩
  intro ds Q h
  obtain ⟨d, _, rfl, css, t, ⟨es, hd, hes⟩, rfl, ht, ne, hz, q⟩ := sp2_get h
  simp!
  refine zwSeq_of hd fun ok ho => ?_
  simp!
  refine lc_solids (fun cs => .lst ((cs.map (imgC t)).map cD)) hes ho (fun d cs _ hd Q q => ?_) ?_
  · simp!
    refine z_wSeq_cells hd ?_
    simp!
    refine lc_cells (fun c => cD (imgC t c)) trivial (fun c _ Q q => ?_) ?_
    · simp!
      exact ⟨c, t, rfl, rfl, ht, q⟩
    · simp!
      rw [List.map_map] at q
      exact q
  · have hA : AllCells (css.map fun cs => .lst ((cs.map (imgC t)).map cD)) (css.map fun cs => cs.map (imgC t)) := by
      have e := AllCells.lsts (css := css.map fun cs => cs.map (imgC t))
      rw [List.map_map] at e
      exact e
    have eF : (css.map fun cs => cs.map (imgC t)).flatten = css.flatten.map (imgC t) := by rw [List.map_flatten]
    simp!
    refine lc2_flat hA trivial (fun d cs hd Q q => ?_) (fun d c Q q => ?_) (by rw [eF, List.length_map]; exact hz) ?_
    · simp!
      exact z_wSeq_cells hd q
    · simp!
      exact q
    · simp!
      rw [eF]
      refine ⟨_, cellsD_lst, fun e => ne (List.map_eq_nil_iff.mp e), fun lo hi hlo _ => ?_⟩
      have elo := loC_eq hlo
      simp!
      refine ⟨trivial, ?_⟩
      unfold cD
      simp! [z_lcCons, z_lcN, z_lcNil]
      refine ⟨trivial, trivial, trivial, trivial, ?_⟩
      refine lc_solids (fun cs => .tup ((csort (cs.map (addC (negC lo)))).map cD)) hA trivial (fun d cs _ hd Q q => ?_) ?_
      · simp!
        refine ⟨cs, negC lo, hd, rfl, ?_⟩
        simp!
        refine sort_cells cellsD_tup ?_
        simp!
        exact q
      · simp!
        intro p hp
        refine lows_same ?_
        have e : ((css.map fun cs => cs.map (imgC t)).map fun cs => D.tup ((csort (cs.map (addC (negC lo)))).map cD)) = (turnAll t css).map fun cs => .tup (cs.map cD) := by
          unfold turnAll shiftAll
          rw [List.map_map, List.map_map, List.map_map, eF, ← elo]
          refine List.map_congr_left fun cs _ => ?_
          have : addC (negC lo) = subC lo := funext fun c => addC_neg lo c
          simp only [Function.comp, this]
        rw [e]
        exact q p hp
/-- the pieces -/
def sp_Assembly_pieces (C : Nat → Addr) : DSp := sp1 fun d S Q _ => ∃ ps : List Piece, holdsP (C 0) S d ps ∧ Q (.lst (ps.map pcD)) S
theorem sp_len_Assembly_pieces {C : Nat → Addr} : ∀ ds S Q E, sp_Assembly_pieces C ds S Q E → ds.length = 1 := sp1_len
theorem ok_Assembly_pieces (T : Txt K mg C a fd)  : DFn P w K mg base 1 (a 9) (fd 9) ["self"] (sp_Assembly_pieces C) := by
  refine dfn_of T.F_Assembly_pieces sc_Assembly_pieces sp_len_Assembly_pieces (fun cdv A outer s B Ed hr hgd => ?_)
  have am : Amb (A.deeper (envOfC "Assembly.pieces" (defScope s_Assembly_pieces) s.heap.objs.size (a 9) cdv)) 0 := ⟨hr, hgd⟩
  refine ⟨_, (dss_one (ds_ret (de_callTy call_list_of cad_list rfl T.m_list bt_list (da_cons (de_fld T.cl_Assembly T.na_Assembly__pieces (de_var 0)) da_nil)))), ?_⟩
  intro ds Q h
  obtain ⟨d, rfl, ps, ⟨y, ho, hy⟩, q⟩ := sp1_get h
  simp!
  refine fld_do ho rfl ?_
  simp!
  unfold listP
  simp only [hy]
  exact lows_same q
/-- the solids of an assembly -/
def sp_solids_of (C : Nat → Addr) : DSp := sp1 fun d S Q _ => ∃ ps : List Piece, holdsP (C 0) S d ps ∧ Q (.lst ((ps.map (·.2)).map slD)) S
theorem sp_len_solids_of {C : Nat → Addr} : ∀ ds S Q E, sp_solids_of C ds S Q E → ds.length = 1 := sp1_len
theorem ok_solids_of (T : Txt K mg C a fd) (G_Assembly_pieces : DFn P w K mg base 1 (a 9) (fd 9) ["self"] (sp_Assembly_pieces C)) : DFn P w K mg base 2 (a 10) (fd 10) ["assembly"] (sp_solids_of C) := by
  refine dfn_of T.F_solids_of sc_solids_of sp_len_solids_of (fun cdv A outer s B Ed hr hgd => ?_)
  have am : Amb (A.deeper (envOfC "solids_of" (defScope s_solids_of) s.heap.objs.size (a 10) cdv)) 1 := ⟨hr, hgd⟩
  refine ⟨_, (dss_one (ds_ret (de_lc rfl sc_solids_of.nd (di_seq (de_callM0 T.cl_Assembly T.me_Assembly_pieces G_Assembly_pieces (am.room.mono (by decide)) am.guards T.b_Assembly_pieces .nil closed_nil dtk_body (de_var 0))) (blkOk_by (own := [("_", 1), ("solid", 2)]) (N := N_solids_of) (sc := (defScope s_solids_of)) (by decide +kernel))
      (fun _ _ _ _ _ _ => (dgv_tup (n := 2) rfl (dgsv_cons (dgv_name 1 sc_solids_of.nd) (dgsv_cons (dgv_name 2 sc_solids_of.nd) dgsv_nil)))) (fun _ _ _ _ _ _ => dts_nil) (fun _ _ _ _ _ _ => (de_var 2))))), ?_⟩
  intro ds Q h
  obtain ⟨d, rfl, ps, ho, q⟩ := sp1_get h
  dsimp!
  refine ⟨holds_in ho (by decide +kernel), ps, ho, ?_⟩
  dsimp!
  refine lcg pcD (fun p => slD p.2) trivial (fun p _ Q q => ?_) ?_
  · simp only [pcD]
    dsimp!
    exact q
  · dsimp!
    rw [List.map_map] at q
    exact lows_same q
def tns : List T3 := [((0, -1), (1, -1), (2, 1)), ((0, -1), (1, 1), (2, -1)), ((0, -1), (2, -1), (1, -1)), ((0, -1), (2, 1), (1, 1)), ((0, 1), (1, -1), (2, -1)), ((0, 1), (1, 1), (2, 1)), ((0, 1), (2, -1), (1, 1)), ((0, 1), (2, 1), (1, -1)), ((1, -1), (0, -1), (2, -1)), ((1, -1), (0, 1), (2, 1)), ((1, -1), (2, -1), (0, 1)), ((1, -1), (2, 1), (0, -1)), ((1, 1), (0, -1), (2, 1)), ((1, 1), (0, 1), (2, -1)), ((1, 1), (2, -1), (0, -1)), ((1, 1), (2, 1), (0, 1)), ((2, -1), (0, -1), (1, 1)), ((2, -1), (0, 1), (1, -1)), ((2, -1), (1, -1), (0, -1)), ((2, -1), (1, 1), (0, 1)), ((2, 1), (0, -1), (1, -1)), ((2, 1), (0, 1), (1, 1)), ((2, 1), (1, -1), (0, 1)), ((2, 1), (1, 1), (0, -1))]
theorem tns_ok : ∀ t ∈ tns, TOk t := by unfold TOk POk; decide +kernel
theorem tns_c : cTURNS = .tup (tns.map tD) := rfl
/-- the sorted solids behind a turn -/
def frmT (css : List (List C3)) (t : T3) : List (List C3) := srtS (turnAll t css)
def forms (css : List (List C3)) : List (List (List C3)) := tns.map (frmT css)
/-- solids that can be turned -/
structure SolsOk (css : List (List C3)) : Prop where
  ne : css ≠ []
  few : css.length ≤ 6
  each : ∀ cs ∈ css, cs ≠ []
  many : ∀ cs ∈ css, cs.length ≤ 40
theorem SolsOk.flat {css : List (List C3)} (h : SolsOk css) : css.flatten ≠ [] := fun e => by
  obtain ⟨cs, hcs⟩ := List.exists_mem_of_ne_nil _ h.ne
  exact h.each cs hcs (List.flatten_eq_nil_iff.mp e cs hcs)
theorem SolsOk.len {css : List (List C3)} (h : SolsOk css) : css.flatten.length ≤ 240 := by
  have go : ∀ css : List (List C3), (∀ cs ∈ css, cs.length ≤ 40) → css.flatten.length ≤ 40 * css.length := by
    intro css
    induction css with
    | nil => intro _; exact Nat.le_refl _
    | cons cs css ih =>
      intro h
      rw [List.flatten_cons, List.length_append, List.length_cons]
      have := ih fun c hc => h c (List.mem_cons_of_mem _ hc)
      have := h cs List.mem_cons_self
      omega
  have := go css h.many
  have := h.few
  omega
theorem turn_each {css : List (List C3)} (h : ∀ cs ∈ css, cs ≠ []) (t : T3) : ∀ cs ∈ turnAll t css, cs ≠ [] := fun cs hcs e => by
  unfold turnAll shiftAll at hcs
  obtain ⟨ds, hds, rfl⟩ := List.mem_map.mp hcs
  obtain ⟨es, hes, rfl⟩ := List.mem_map.mp hds
  have p := csort_perm ((es.map (imgC t)).map (subC (loC (css.map fun cs => cs.map (imgC t)).flatten)))
  rw [e] at p
  have := p.symm.eq_nil
  simp at this
  exact h es hes this
theorem all_sl {css : List (List C3)} : AllCells (css.map slD) css := AllCells.tups
theorem turned_small {css : List (List C3)} (ok : SolsOk css) (hb : ∀ cs ∈ css, ∀ c ∈ cs, ∀ k, -15 ≤ cAt c k ∧ cAt c k ≤ 15) {t : T3} (ht : TOk t) : ∀ cs ∈ turnAll t css, Small 2 8003 (slD cs) := fun cs hcs => by
  have bd := turnAll_bd ht ok.flat hb
  exact small_cellsT (m := 40) (turnAll_mem_len ok.many cs hcs) fun c hc k => by have := bd cs hcs c hc k; omega
theorem forms_small {css : List (List C3)} (ok : SolsOk css) (hb : ∀ cs ∈ css, ∀ c ∈ cs, ∀ k, -15 ≤ cAt c k ∧ cAt c k ≤ 15) : ∀ g ∈ forms css, Small 3 48033 (fmD g) := fun g hg => by
  obtain ⟨t, ht, rfl⟩ := List.mem_map.mp hg
  refine (small_tup (k := 2) (n := 8003) (m := 6) ?_ fun x hx => ?_).mono (Nat.le_refl _) (by decide)
  · rw [List.length_map]
    show (srtS (turnAll t css)).length ≤ 6
    rw [(srtS_perm _).length_eq, turnAll_len]; exact ok.few
  · obtain ⟨cs, hcs, rfl⟩ := List.mem_map.mp hx
    exact turned_small ok hb (tns_ok t ht) cs ((srtS_perm _).mem_iff.mp hcs)
/-- coordinates of assemblies -/
def Bd15 (css : List (List C3)) : Prop := ∀ cs ∈ css, ∀ c ∈ cs, ∀ k, -15 ≤ cAt c k ∧ cAt c k ≤ 15
def nT : T3 := ((0, 1), (1, 1), (2, 1))
theorem nT_ok : TOk nT := by unfold TOk POk nT; decide
theorem nT_c (c : C3) : imgC nT c = c := by
  obtain ⟨x, y, z⟩ := c
  simp [imgC, nT, cAt]
theorem turn_no (css : List (List C3)) : turnAll nT css = shiftAll css := by
  unfold turnAll
  have : (css.map fun cs => cs.map (imgC nT)) = css := by
    refine (List.map_congr_left fun cs _ => ?_).trans (List.map_id _)
    exact (List.map_congr_left fun c _ => nT_c c).trans (List.map_id _)
  rw [this]
def sp_form_of (C : Nat → Addr) : DSp := sp1 fun d S Q _ => ∃ ps : List Piece, holdsP (C 0) S d ps ∧ SolsOk (ps.map (·.2)) ∧ ∀ f S', LeastF (forms (ps.map (·.2))) f → Sub S S' → Q (fmD f) S'
theorem sp_len_form_of {C : Nat → Addr} : ∀ ds S Q E, sp_form_of C ds S Q E → ds.length = 1 := sp1_len
theorem ok_form_of (T : Txt K mg C a fd) (G_solids_of : DFn P w K mg base 2 (a 10) (fd 10) ["assembly"] (sp_solids_of C)) (G_turned_all : DFn P w K mg base 2 (a 8) (fd 8) ["solids", "turn"] sp_turned_all) : DFn P w K mg base 3 (a 11) (fd 11) ["assembly"] (sp_form_of C) := by
  refine dfn_of T.F_form_of sc_form_of sp_len_form_of (fun cdv A outer s B Ed hr hgd => ?_)
  have am : Amb (A.deeper (envOfC "form_of" (defScope s_form_of) s.heap.objs.size (a 11) cdv)) 2 := ⟨hr, hgd⟩
  refine ⟨_, (dss_cons (ds_set 1 sc_form_of.nd (de_call G_solids_of (am.room.mono (by decide)) am.guards rfl T.g_solids_of T.F_solids_of.kp T.b_solids_of .nil closed_nil dtk_body (da_cons (de_var 0) da_nil)))
    (dss_one (ds_ret (de_callB (cr_minG am) cad_minG rfl T.m_min bt_min (da_cons (de_lc rfl sc_form_of.nd (di_seq (de_globD rfl T.c_TURNS)) (blkOk_by (own := [("turn", 2)]) (N := N_form_of) (sc := (defScope s_form_of)) (by decide +kernel))
      (fun _ _ _ _ _ _ => (dgv_name 2 sc_form_of.nd)) (fun _ _ _ _ _ _ => dts_nil) (fun _ _ _ _ _ _ => (de_callTy call_tuple_of cad_tuple rfl T.m_tuple bt_tuple (da_cons (de_callB (cr_sortG am) cad_sortG rfl T.m_sorted bt_sorted (da_cons (de_call G_turned_all (am.room.mono (by decide)) am.guards rfl T.g_turned_all T.F_turned_all.kp T.b_turned_all .nil closed_nil dtk0 (da_cons (de_var 1) (da_cons (de_var 2) da_nil))) da_nil)) da_nil)))) da_nil))))), ?_⟩
  intro ds Q h
  obtain ⟨d, rfl, ps, ho, ok, q⟩ := sp1_get h
  generalize hT : cTURNS = tT
  have hS : seqOf B.S tT = some (tns.map tD) := by rw [← hT, tns_c]; rfl
  have hok := tns_ok
  have hne : forms (ps.map (·.2)) ≠ [] := fun e => by
    have := congrArg List.length e
    unfold forms at this
    rw [List.length_map] at this
    exact absurd this (by decide)
  unfold forms at q hne
  generalize tns = ts at hS hok q hne
  dsimp!
  refine ⟨ps, ho, ?_⟩
  dsimp!
  refine zwSeq_ext hS Sub.refl fun ok1 hok1 => ?_
  dsimp!
  refine lc_inv (fun k acc S => Sub B.S S ∧ acc = (ts.take k).map fun t => fmD (frmT (ps.map (·.2)) t)) ⟨Sub.refl, rfl⟩ (fun k x acc S Z hd ⟨sb, e⟩ hz => ⟨hok1 S sb, ?_⟩) (fun acc S ⟨sb, e⟩ => ⟨hok1 S sb, ?_⟩)
  · rw [List.getElem?_map] at hd
    obtain ⟨t, ht, rfl⟩ : ∃ t, ts[k]? = some t ∧ tD t = x := by
      cases e : ts[k]? with
      | none => rw [e] at hd; cases hd
      | some p => rw [e] at hd; cases hd; exact ⟨p, rfl, rfl⟩
    dsimp!
    refine ⟨ps.map (·.2), t, ⟨_, rfl, all_sl⟩, rfl, hok t (List.mem_of_getElem? ht), ok.flat, szL (by have := ok.len; omega), fun p hp => ?_⟩
    dsimp!
    refine sort_sl (css := turnAll t (ps.map (·.2))) (seqOf_ref put_same) (turn_each ok.each t) ?_
    dsimp!
    refine hz _ _ ⟨sub_put sb (sb.none hp), ?_⟩
    rw [e, List.take_add_one, ht, List.map_append]
    rfl
  · rw [List.length_map, List.take_length] at e
    dsimp!
    refine min_fm (fs := ts.map (frmT (ps.map (·.2)))) ?_ hne fun f hf => ?_
    · rw [e, List.map_map]; rfl
    · exact lows_same (q f S hf sb)
def tnAt (t : T3) (k : Int) : P2 := if k = 0 then t.1 else if k = 1 then t.2.1 else t.2.2
def cmpPt (a : T3) (p : P2) : P2 := ((tnAt a p.1).1, p.2 * (tnAt a p.1).2)
/-- one turn and then another -/
def cmpT (a b : T3) : T3 := (cmpPt a b.1, cmpPt a b.2.1, cmpPt a b.2.2)
theorem img_cmp (a b : T3) (hb : TOk b) (c : C3) : imgC b (imgC a c) = imgC (cmpT a b) c := by
  have g : ∀ p : P2, POk p → p.2 * cAt (imgC a c) p.1 = (cmpPt a p).2 * cAt c (cmpPt a p).1 := fun p hp => by
    obtain ⟨⟨h0, h3⟩, _⟩ := hp
    unfold cmpPt tnAt
    obtain e | e | e : p.1 = 0 ∨ p.1 = 1 ∨ p.1 = 2 := by omega
    · rw [e]; simp [imgC, cAt, Int.mul_assoc]
    · rw [e]; simp [imgC, cAt, Int.mul_assoc]
    · rw [e]; simp [imgC, cAt, Int.mul_assoc]
  have e1 := g b.1 hb.1
  have e2 := g b.2.1 hb.2.1
  have e3 := g b.2.2 hb.2.2
  show (b.1.2 * cAt (imgC a c) b.1.1, b.2.1.2 * cAt (imgC a c) b.2.1.1, b.2.2.2 * cAt (imgC a c) b.2.2.1) = _
  rw [e1, e2, e3]
  rfl
theorem tns_cmp : ∀ a ∈ tns, ∀ b ∈ tns, cmpT a b ∈ tns := by decide +kernel
theorem tns_div : ∀ a ∈ tns, ∀ c ∈ tns, ∃ b ∈ tns, cmpT a b = c := by decide +kernel
theorem tns_no : ∀ a ∈ tns, cmpT a nT = a := by decide +kernel
theorem nT_in : nT ∈ tns := by decide +kernel
theorem turn_two {a b : T3} {css : List (List C3)} (hb : TOk b) (ne : css.flatten ≠ []) : turnAll b (turnAll a css) = turnAll (cmpT a b) css := by
  have ne2 : (css.map fun cs => cs.map (imgC a)).flatten ≠ [] := fun e => ne (by rw [← List.map_flatten] at e; exact List.map_eq_nil_iff.mp e)
  have sm : Sims (loC (css.map fun cs => cs.map (imgC a)).flatten) (css.map fun cs => cs.map (imgC a)) (turnAll a css) := sims_of fun cs _ => csort_perm _
  rw [sm.turn ne2 b]
  unfold turnAll
  rw [List.map_map]
  congr 1
  refine List.map_congr_left fun cs _ => ?_
  show (cs.map (imgC a)).map (imgC b) = _
  rw [List.map_map]
  exact List.map_congr_left fun c _ => img_cmp a b hb c
theorem turnAll_flat {t : T3} {css : List (List C3)} (h : SolsOk css) : (turnAll t css).flatten ≠ [] := fun e => by
  have ne : turnAll t css ≠ [] := fun e => h.ne (List.length_eq_zero_iff.mp (by rw [← turnAll_len (t := t), e]; rfl))
  obtain ⟨cs, hcs⟩ := List.exists_mem_of_ne_nil _ ne
  exact turn_each h.each t cs hcs (List.flatten_eq_nil_iff.mp e cs hcs)
/-- the forms of what is turned -/
theorem forms_turned {t : T3} {css : List (List C3)} (ht : t ∈ tns) (h : SolsOk css) (x : List (List C3)) : x ∈ forms (turnAll t css) ↔ x ∈ forms css := by
  unfold forms
  rw [List.mem_map, List.mem_map]
  constructor
  · rintro ⟨b, hb, rfl⟩
    exact ⟨cmpT t b, tns_cmp t ht b hb, by unfold frmT; rw [turn_two (tns_ok b hb) h.flat]⟩
  · rintro ⟨c, hc, rfl⟩
    obtain ⟨b, hb, e⟩ := tns_div t ht c hc
    exact ⟨b, hb, by unfold frmT; rw [turn_two (tns_ok b hb) h.flat, e]⟩
theorem shift_turned {t : T3} {css : List (List C3)} (ht : t ∈ tns) (h : SolsOk css) : shiftAll (turnAll t css) = turnAll t css := by
  rw [← turn_no, turn_two nT_ok h.flat, tns_no t ht]
/-- the forms are the same -/
def sp_alike (C : Nat → Addr) : DSp := sp2 fun d e S Q _ => ∃ ps qs : List Piece, holdsP (C 0) S d ps ∧ holdsP (C 0) S e qs ∧ (∀ S', Sub S S' → holdsP (C 0) S' e qs) ∧ SolsOk (ps.map (·.2)) ∧ SolsOk (qs.map (·.2)) ∧ Bd15 (ps.map (·.2)) ∧ Bd15 (qs.map (·.2)) ∧
  ∀ f g S', LeastF (forms (ps.map (·.2))) f → LeastF (forms (qs.map (·.2))) g → Sub S S' → Q (.bl (decide (f = g))) S'
theorem sp_len_alike {C : Nat → Addr} : ∀ ds S Q E, sp_alike C ds S Q E → ds.length = 2 := sp2_len
theorem ok_alike (T : Txt K mg C a fd) (G_form_of : DFn P w K mg base 3 (a 11) (fd 11) ["assembly"] (sp_form_of C)) : DFn P w K mg base 4 (a 12) (fd 12) ["one", "other"] (sp_alike C) := by
  refine dfn_of T.F_alike sc_alike sp_len_alike (fun cdv A outer s B Ed hr hgd => ?_)
  have am : Amb (A.deeper (envOfC "alike" (defScope s_alike) s.heap.objs.size (a 12) cdv)) 3 := ⟨hr, hgd⟩
  refine ⟨_, (dss_one (ds_ret (de_cmp1 (cd_eq am) (de_call G_form_of (am.room.mono (by decide)) am.guards rfl T.g_form_of T.F_form_of.kp T.b_form_of .nil closed_nil dtk_body (da_cons (de_var 0) da_nil)) (de_call G_form_of (am.room.mono (by decide)) am.guards rfl T.g_form_of T.F_form_of.kp T.b_form_of .nil closed_nil dtk_body (da_cons (de_var 1) da_nil))))), ?_⟩
  intro ds Q h
  obtain ⟨d, e, rfl, ps, qs, h1, _, h2, o1, o2, b1, b2, q⟩ := sp2_get h
  dsimp!
  refine ⟨ps, h1, o1, fun f S1 hf sb1 => ?_⟩
  dsimp!
  refine ⟨qs, h2 S1 sb1, o2, fun g S2 hg sb2 => ?_⟩
  dsimp!
  refine eq_do ((forms_small o1 b1 f hf.1).okE (by decide)) ((forms_small o2 b2 g hg.1).okE (by decide)) ?_
  rw [eqD_of flat_fm flat_fm (b := decide (f = g)) (by rw [decide_eq_true_eq]; exact ⟨fun h => by rw [h], fmD_inj⟩)]
  exact lows_same (q f g S2 hf hg fun a o h => sb2 a o (sb1 a o h))
/-- the names of the pieces -/
def sp_Assembly_names (C : Nat → Addr) : DSp := sp1 fun d S Q _ => ∃ ps : List Piece, holdsP (C 0) S d ps ∧ Q (.lst ((ps.map (·.1)).map D.str)) S
theorem sp_len_Assembly_names {C : Nat → Addr} : ∀ ds S Q E, sp_Assembly_names C ds S Q E → ds.length = 1 := sp1_len
theorem ok_Assembly_names (T : Txt K mg C a fd)  : DFn P w K mg base 1 (a 13) (fd 13) ["self"] (sp_Assembly_names C) := by
  refine dfn_of T.F_Assembly_names sc_Assembly_names sp_len_Assembly_names (fun cdv A outer s B Ed hr hgd => ?_)
  have am : Amb (A.deeper (envOfC "Assembly.names" (defScope s_Assembly_names) s.heap.objs.size (a 13) cdv)) 0 := ⟨hr, hgd⟩
  refine ⟨_, (dss_one (ds_ret (de_lc rfl sc_Assembly_names.nd (di_seq (de_fld T.cl_Assembly T.na_Assembly__pieces (de_var 0))) (blkOk_by (own := [("name", 1), ("_", 2)]) (N := N_Assembly_names) (sc := (defScope s_Assembly_names)) (by decide +kernel))
      (fun _ _ _ _ _ _ => (dgv_tup (n := 2) rfl (dgsv_cons (dgv_name 1 sc_Assembly_names.nd) (dgsv_cons (dgv_name 2 sc_Assembly_names.nd) dgsv_nil)))) (fun _ _ _ _ _ _ => dts_nil) (fun _ _ _ _ _ _ => (de_var 1))))), ?_⟩
  intro ds Q h
  obtain ⟨d, rfl, ps, ⟨y, ho, hy⟩, q⟩ := sp1_get h
  simp!
  refine fld_do ho rfl ?_
  refine zwSeq_of hy fun ok hok => ?_
  simp!
  refine lcg pcD (fun p => .str p.1) hok (fun p _ Q q => ?_) ?_
  · simp! [pcD]
    exact ⟨trivial, q⟩
  · simp!
    rw [List.map_map] at q
    exact lows_same q
instance decLeads {a b : List (List C3)} {t : T3} : Decidable ((turnAll t a).Perm (shiftAll b)) := List.decidablePerm _ _
/-- a turn leads these solids to those -/
def leads (a b : List (List C3)) (t : T3) : Prop := (turnAll t a).Perm (shiftAll b)
instance {a b : List (List C3)} {t : T3} : Decidable (leads a b t) := by unfold leads; infer_instance
/-- which piece is led to which -/
def rowL (ns ms : List Str) (a b : List (List C3)) (t : T3) : List (Str × Str) := (ns.zip (turnAll t a)).map fun z => (z.1, nmAt ms ((shiftAll b).idxOf z.2))
def rwD (r : Str × Str) : D := .tup [.str r.1, .str r.2]
theorem cNO_eq : cNO_TURN = tD nT := rfl
def sp_likeness (C : Nat → Addr) : DSp := sp2 fun d e S Q _ => ∃ ps qs : List Piece, holdsP (C 0) S d ps ∧ holdsP (C 0) S e qs ∧ SolsOk (ps.map (·.2)) ∧ SolsOk (qs.map (·.2)) ∧ Bd15 (ps.map (·.2)) ∧ Bd15 (qs.map (·.2)) ∧
  (∀ k t, tns[k]? = some t → (∀ t' ∈ tns.take k, ¬ leads (ps.map (·.2)) (qs.map (·.2)) t') → leads (ps.map (·.2)) (qs.map (·.2)) t → ∀ p, S p = none → Q (.tup [tD t, .ref p]) (put S p (.lst ((rowL (ps.map (·.1)) (qs.map (·.1)) (ps.map (·.2)) (qs.map (·.2)) t).map rwD)))) ∧
  ((∀ t ∈ tns, ¬ leads (ps.map (·.2)) (qs.map (·.2)) t) → Q .non S)
theorem sp_len_likeness {C : Nat → Addr} : ∀ ds S Q E, sp_likeness C ds S Q E → ds.length = 2 := sp2_len
theorem idx_sl {gs : List (List C3)} {s : List C3} (h : s ∈ gs) : ∃ k : Nat, gs.idxOf s = k ∧ gs[k]? = some s ∧ ∀ m g, m < k → gs[m]? = some g → g ≠ s := by
  refine ⟨gs.idxOf s, rfl, ?_, fun m g hm hg e => ?_⟩
  · have hl : gs.idxOf s < gs.length := List.idxOf_lt_length_of_mem h
    rw [List.getElem?_eq_getElem hl, List.getElem_idxOf hl]
  · subst e
    unfold List.idxOf at hm
    have := List.not_of_lt_findIdx hm
    obtain ⟨l, e2⟩ := List.getElem?_eq_some_iff.mp hg
    rw [e2] at this
    simp at this
theorem ok_likeness (T : Txt K mg C a fd) (G_Assembly_names : DFn P w K mg base 1 (a 13) (fd 13) ["self"] (sp_Assembly_names C)) (G_solids_of : DFn P w K mg base 2 (a 10) (fd 10) ["assembly"] (sp_solids_of C)) (G_turned_all : DFn P w K mg base 2 (a 8) (fd 8) ["solids", "turn"] sp_turned_all) : DFn P w K mg base 3 (a 14) (fd 14) ["one", "other"] (sp_likeness C) := by
  refine dfn_of T.F_likeness sc_likeness sp_len_likeness (fun cdv A outer s B Ed hr hgd => ?_)
  have am : Amb (A.deeper (envOfC "likeness" (defScope s_likeness) s.heap.objs.size (a 14) cdv)) 2 := ⟨hr, hgd⟩
  refine ⟨_, (dss_cons (ds_set 2 sc_likeness.nd (de_low (de_call G_turned_all (am.room.mono (by decide)) am.guards rfl T.g_turned_all T.F_turned_all.kp T.b_turned_all .nil closed_nil dtk_body (da_cons (de_call G_solids_of (am.room.mono (by decide)) am.guards rfl T.g_solids_of T.F_solids_of.kp T.b_solids_of .nil closed_nil dtk_body (da_cons (de_var 1) da_nil)) (da_cons (de_globD rfl T.c_NO_TURN) da_nil)))))
    (dss_cons (ds_set 3 sc_likeness.nd (de_callM0 T.cl_Assembly T.me_Assembly_names G_Assembly_names (am.room.mono (by decide)) am.guards T.b_Assembly_names .nil closed_nil dtk_body (de_var 1)))
    (dss_cons (ds_for (passes_of rfl) rfl (di_seq (de_globD rfl T.c_TURNS)) (dg_name 4 sc_likeness.nd)
    (dss_cons (ds_set 5 sc_likeness.nd (de_low (de_call G_turned_all (am.room.mono (by decide)) am.guards rfl T.g_turned_all T.F_turned_all.kp T.b_turned_all .nil closed_nil dtk_body (da_cons (de_call G_solids_of (am.room.mono (by decide)) am.guards rfl T.g_solids_of T.F_solids_of.kp T.b_solids_of .nil closed_nil dtk_body (da_cons (de_var 0) da_nil)) (da_cons (de_var 4) da_nil)))))
    (dss_one (ds_if (dt_cmp1 (cd_eq am) (de_callB (cr_sortG am) cad_sortG rfl T.m_sorted bt_sorted (da_cons (de_var 5) da_nil)) (de_callB (cr_sortG am) cad_sortG rfl T.m_sorted bt_sorted (da_cons (de_var 2) da_nil)))
    (dss_cons (ds_setLcO 6 rfl sc_likeness.nd (sw_true rfl rfl rfl (by decide +kernel)) (di_zip rfl T.m_zip (da_cons (de_callM0 T.cl_Assembly T.me_Assembly_names G_Assembly_names (am.room.mono (by decide)) am.guards T.b_Assembly_names .nil closed_nil dtk_body (de_var 0)) (da_cons (de_var 5) da_nil))) (blkOk_by (own := [("name", 7), ("solid", 8)]) (N := N_likeness) (sc := (defScope s_likeness)) (by decide +kernel))
      (fun _ _ _ _ _ _ => (dgv_tup (n := 2) rfl (dgsv_cons (dgv_name 7 sc_likeness.nd) (dgsv_cons (dgv_name 8 sc_likeness.nd) dgsv_nil)))) (fun _ _ _ _ _ _ => dts_nil) (fun _ _ _ _ _ _ => (de_tup (da_cons (de_var 7) (da_cons (de_ix (de_var 3) (de_index am (de_var 2) (da_cons (de_var 8) da_nil))) da_nil)))))
    (dss_one (ds_ret (de_tup (da_cons (de_var 4) (da_cons (de_var 6) da_nil))))))
    dss_nil))))
    (dss_one (ds_ret de_non))))), ?_⟩
  intro ds Q h
  obtain ⟨d, e, rfl, ps, qs, h1, h2, o1, o2, b1, b2, q, qn⟩ := sp2_get h
  have e1 : cTURNS = .tup (tns.map tD) := tns_c
  generalize cTURNS = tT at e1 ⊢
  dsimp!
  refine ⟨qs, h2, ?_⟩
  dsimp!
  rw [cNO_eq]
  refine ⟨qs.map (·.2), nT, ⟨_, rfl, all_sl⟩, rfl, nT_ok, o2.flat, szL (by have := o2.len; omega), fun p hp => lows_lst put_same ?_⟩
  rw [cut_put hp, turn_no]
  dsimp!
  refine ⟨holds_in h2 (by decide +kernel), qs, h2, ?_⟩
  dsimp!
  refine zwSeq_of (ds := tns.map tD) (by rw [e1]; rfl) fun ok1 hok1 => ?_
  dsimp!
  refine for_vs [4, 5, 6] (fun k vs S => S = B.S ∧ (∀ t' ∈ tns.take k, ¬ leads (ps.map (·.2)) (qs.map (·.2)) t') ∧ ∃ x4 x5 x6, vs = [x4, x5, x6]) (xs0 := [none, none, none]) rfl ⟨rfl, fun t h => by simp at h, _, _, _, rfl⟩ (fun k x vs S Z hx ⟨hS, hn, x4, x5, x6, e⟩ hz => ?_) (fun vs S ⟨hS, hn, x4, x5, x6, e⟩ => ?_)
  · subst e hS
    refine ⟨hok1, ?_⟩
    rw [List.getElem?_map] at hx
    obtain ⟨t, ht, rfl⟩ : ∃ t, tns[k]? = some t ∧ tD t = x := by
      cases e : tns[k]? with
      | none => rw [e] at hx; cases hx
      | some p => rw [e] at hx; cases hx; exact ⟨p, rfl, rfl⟩
    have tok := tns_ok t (List.mem_of_getElem? ht)
    have et : tns.take (k + 1) = tns.take k ++ [t] := by rw [List.take_add_one, ht]; rfl
    dsimp!
    refine ⟨ps, h1, ?_⟩
    dsimp!
    refine ⟨ps.map (·.2), t, ⟨_, rfl, all_sl⟩, rfl, tok, o1.flat, szL (by have := o1.len; omega), fun p2 hp2 => lows_lst put_same ?_⟩
    rw [cut_put hp2]
    have te := turn_each o1.each t
    have se : ∀ cs ∈ shiftAll (qs.map (·.2)), cs ≠ [] := by rw [← turn_no]; exact turn_each o2.each nT
    have ts := turned_small o1 b1 tok
    have gs : ∀ cs ∈ shiftAll (qs.map (·.2)), Small 2 8003 (slD cs) := by rw [← turn_no]; exact turned_small o2 b2 nT_ok
    have tl : (turnAll t (ps.map (·.2))).length ≤ 6 := by rw [turnAll_len]; exact o1.few
    have gl : (shiftAll (qs.map (·.2))).length ≤ 6 := by rw [shiftAll_len]; exact o2.few
    have okl : ∀ css : List (List C3), css.length ≤ 6 → (∀ cs ∈ css, Small 2 8003 (slD cs)) → okE (.lst (css.map slD)) = true := fun css hl h => (small_lst (k := 2) (n := 8003) (m := 6) (by rw [List.length_map]; exact hl) fun x hx => by
      obtain ⟨cs, hcs, rfl⟩ := List.mem_map.mp hx
      exact h cs hcs).okE (by decide)
    dsimp!
    refine sort_sl (css := turnAll t (ps.map (·.2))) rfl te ?_
    dsimp!
    refine sort_sl (css := shiftAll (qs.map (·.2))) rfl se ?_
    dsimp!
    have fl : ∀ css : List (List C3), flatD (.lst (css.map slD)) = true := fun css => flatAll_iff.mpr fun d hd => by obtain ⟨c, _, rfl⟩ := List.mem_map.mp hd; exact flat_sl
    refine eq_do (okl _ (by rw [(srtS_perm _).length_eq]; exact tl) fun cs h => ts cs ((srtS_perm _).mem_iff.mp h)) (okl _ (by rw [(srtS_perm _).length_eq]; exact gl) fun cs h => gs cs ((srtS_perm _).mem_iff.mp h)) ?_
    rw [eqD_of (fl _) (fl _) (b := decide (leads (ps.map (·.2)) (qs.map (·.2)) t)) (by
      rw [decide_eq_true_eq]
      unfold leads
      rw [← srtS_iff]
      exact ⟨fun h => by rw [h], fun h => fmD_inj (by unfold fmD; injection h with h; rw [h])⟩)]
    by_cases hl : leads (ps.map (·.2)) (qs.map (·.2)) t
    · rw [decide_eq_true hl]
      dsimp!
      refine ⟨holds_in h1 (by decide +kernel), ps, h1, ?_⟩
      dsimp!
      refine zip_do rfl rfl ?_
      have ez : zipD ((ps.map (·.1)).map D.str) ((turnAll t (ps.map (·.2))).map fun cs => D.tup (cs.map cD)) = ((ps.map (·.1)).zip (turnAll t (ps.map (·.2)))).map fun z => .tup [.str z.1, .tup (z.2.map cD)] := zipD_map D.str (fun cs : List C3 => D.tup (cs.map cD)) _ _
      rw [ez]
      dsimp!
      refine lcg (fun z : Str × List C3 => D.tup [.str z.1, .tup (z.2.map cD)]) (fun z => rwD (z.1, nmAt (qs.map (·.1)) ((shiftAll (qs.map (·.2))).idxOf z.2))) ⟨okOf_refl, okOf_refl⟩ (fun z hz2 Q q => ?_) ?_
      · obtain ⟨nm, sl⟩ := z
        have hm : sl ∈ shiftAll (qs.map (·.2)) := hl.mem_iff.mp (List.of_mem_zip hz2).2
        obtain ⟨j, ej, hj, hfirst⟩ := idx_sl hm
        rw [ej] at q
        dsimp!
        have hjl : j < (qs.map (·.1)).length := by
          have := (List.getElem?_eq_some_iff.mp hj).1
          rw [shiftAll_len, List.length_map] at this
          rw [List.length_map]; exact this
        refine ⟨rfl, ?_⟩
        refine ⟨okl _ gl gs, (gs sl hm).okE (by decide), j, slD sl, by rw [List.getElem?_map, hj]; rfl, eqD_of (b := true) (x := slD sl) (y := slD sl) flat_sl flat_sl ⟨fun _ => rfl, fun _ => rfl⟩, fun m z' hm2 hz' => ?_, ?_⟩
        · rw [List.getElem?_map] at hz'
          cases eg : (shiftAll (qs.map (·.2)))[m]? with
          | none => rw [eg] at hz'; cases hz'
          | some g =>
            rw [eg] at hz'; cases hz'
            exact eqD_of (b := false) flat_sl flat_sl ⟨fun h => (by cases h), fun h => absurd (slD_inj h) (hfirst m g hm2 eg)⟩
        · dsimp!
          refine zIx_nat (k := j) rfl (by rw [List.getElem?_map, nmAt_get hjl]; rfl) ?_
          dsimp!
          exact q
      dsimp!
      have er : (((ps.map (·.1)).zip (turnAll t (ps.map (·.2)))).map fun z => rwD (z.1, nmAt (qs.map (·.1)) ((shiftAll (qs.map (·.2))).idxOf z.2))) = (rowL (ps.map (·.1)) (qs.map (·.1)) (ps.map (·.2)) (qs.map (·.2)) t).map rwD := by
        unfold rowL
        rw [List.map_map]; rfl
      rw [er]
      intro p hp
      exact lows_same (q k t ht hn hl p hp)
    · rw [decide_eq_false hl]
      dsimp!
      refine hz [_, _, _] _ ⟨rfl, fun t' h' => ?_, _, _, _, rfl⟩
      rw [et] at h'
      rcases List.mem_append.mp h' with h' | h'
      · exact hn t' h'
      · rw [List.mem_singleton.mp h']; exact hl
  · subst e hS
    refine ⟨hok1, ?_⟩
    rw [List.length_map, List.take_length] at hn
    dsimp!
    exact lows_same (qn hn)
theorem ok_PieceError___init__ (T : Txt K mg C a fd) : FnOk P w K mg base (L2.CX P w) 1 (a 15) (fd 15) ["self", "word", "place"] (spPE K) :=
  T.F_PieceError___init__.ok sc_PieceError___init__ spPE_len fun cdv A outer s H vs Q E hr h => ⟨_, pss_cons (ps_ost (pe_var rfl (.inl rfl)) (pe_var rfl (.inl rfl))) (pss_one (ps_ost (pe_var rfl (.inl rfl)) (pe_var rfl (.inl rfl)))), read_pe h⟩
theorem ok_BadCount___init__ (T : Txt K mg C a fd) (G_PieceError___init__ : FnOk P w K mg base (L2.CX P w) 1 (a 15) (fd 15) ["self", "word", "place"] (spPE K)) : FnOk P w K mg base (L2.CX P w) 2 (a 16) (fd 16) ["self", "place"] (spErr K "BadCount") :=
  T.F_BadCount___init__.ok sc_BadCount___init__ spErr_len fun cdv A outer s H vs Q E hr h => ⟨_, pss_one (ps_expr (pe_clsfn rfl T.gc_PieceError T.rd_PE T.sg_PE T.fc_PE T.hh_PE G_PieceError___init__ hr T.F_PieceError___init__.kp T.b_PieceError___init__ (passes_call (takes_of rfl rfl rfl rfl) fun _ _ _ _ z => z) (pa_cons (pe_var rfl (.inl rfl)) (pa_cons pe_str (pa_cons (pe_var rfl (.inl rfl)) pa_nil))) (by decide) rfl rfl rfl)), read_err h⟩
theorem ok_BadName___init__ (T : Txt K mg C a fd) (G_PieceError___init__ : FnOk P w K mg base (L2.CX P w) 1 (a 15) (fd 15) ["self", "word", "place"] (spPE K)) : FnOk P w K mg base (L2.CX P w) 2 (a 17) (fd 17) ["self", "place"] (spErr K "BadName") :=
  T.F_BadName___init__.ok sc_BadName___init__ spErr_len fun cdv A outer s H vs Q E hr h => ⟨_, pss_one (ps_expr (pe_clsfn rfl T.gc_PieceError T.rd_PE T.sg_PE T.fc_PE T.hh_PE G_PieceError___init__ hr T.F_PieceError___init__.kp T.b_PieceError___init__ (passes_call (takes_of rfl rfl rfl rfl) fun _ _ _ _ z => z) (pa_cons (pe_var rfl (.inl rfl)) (pa_cons pe_str (pa_cons (pe_var rfl (.inl rfl)) pa_nil))) (by decide) rfl rfl rfl)), read_err h⟩
theorem ok_BadSolid___init__ (T : Txt K mg C a fd) (G_PieceError___init__ : FnOk P w K mg base (L2.CX P w) 1 (a 15) (fd 15) ["self", "word", "place"] (spPE K)) : FnOk P w K mg base (L2.CX P w) 2 (a 18) (fd 18) ["self", "place"] (spErr K "BadSolid") :=
  T.F_BadSolid___init__.ok sc_BadSolid___init__ spErr_len fun cdv A outer s H vs Q E hr h => ⟨_, pss_one (ps_expr (pe_clsfn rfl T.gc_PieceError T.rd_PE T.sg_PE T.fc_PE T.hh_PE G_PieceError___init__ hr T.F_PieceError___init__.kp T.b_PieceError___init__ (passes_call (takes_of rfl rfl rfl rfl) fun _ _ _ _ z => z) (pa_cons (pe_var rfl (.inl rfl)) (pa_cons pe_str (pa_cons (pe_var rfl (.inl rfl)) pa_nil))) (by decide) rfl rfl rfl)), read_err h⟩
theorem ok_SameName___init__ (T : Txt K mg C a fd) (G_PieceError___init__ : FnOk P w K mg base (L2.CX P w) 1 (a 15) (fd 15) ["self", "word", "place"] (spPE K)) : FnOk P w K mg base (L2.CX P w) 2 (a 19) (fd 19) ["self", "place"] (spErr K "SameName") :=
  T.F_SameName___init__.ok sc_SameName___init__ spErr_len fun cdv A outer s H vs Q E hr h => ⟨_, pss_one (ps_expr (pe_clsfn rfl T.gc_PieceError T.rd_PE T.sg_PE T.fc_PE T.hh_PE G_PieceError___init__ hr T.F_PieceError___init__.kp T.b_PieceError___init__ (passes_call (takes_of rfl rfl rfl rfl) fun _ _ _ _ z => z) (pa_cons (pe_var rfl (.inl rfl)) (pa_cons pe_str (pa_cons (pe_var rfl (.inl rfl)) pa_nil))) (by decide) rfl rfl rfl)), read_err h⟩
theorem ok_Overlap___init__ (T : Txt K mg C a fd) (G_PieceError___init__ : FnOk P w K mg base (L2.CX P w) 1 (a 15) (fd 15) ["self", "word", "place"] (spPE K)) : FnOk P w K mg base (L2.CX P w) 2 (a 20) (fd 20) ["self", "place"] (spErr K "Overlap") :=
  T.F_Overlap___init__.ok sc_Overlap___init__ spErr_len fun cdv A outer s H vs Q E hr h => ⟨_, pss_one (ps_expr (pe_clsfn rfl T.gc_PieceError T.rd_PE T.sg_PE T.fc_PE T.hh_PE G_PieceError___init__ hr T.F_PieceError___init__.kp T.b_PieceError___init__ (passes_call (takes_of rfl rfl rfl rfl) fun _ _ _ _ z => z) (pa_cons (pe_var rfl (.inl rfl)) (pa_cons pe_str (pa_cons (pe_var rfl (.inl rfl)) pa_nil))) (by decide) rfl rfl rfl)), read_err h⟩
/-- is_name: a text of 1 to 8 small letters -/
def inAZ (c : Nat) : Bool := decide (c ∈ ("abcdefghijklmnopqrstuvwxyz" : Str).cps.toList)
def isName : D → Bool
  | .str x => (decide (1 ≤ (x.length : Int)) && decide ((x.length : Int) ≤ 8)) && x.cps.toList.all inAZ
  | _ => false
def sp_is_name : DSp := sp1 fun d S Q _ => plain d = true ∧ (∀ x, d = .str x → x.length ≤ sizeLine) ∧ Q (.bl (isName d)) S
theorem sp_len_is_name : ∀ ds S Q E, sp_is_name ds S Q E → ds.length = 1 := sp1_len
theorem ok_is_name (T : Txt K mg C a fd)  : DFn P w K mg base 1 (a 21) (fd 21) ["value"] sp_is_name := by
  refine dfn_of T.F_is_name sc_is_name sp_len_is_name (fun cdv A outer s B Ed hr hgd => ?_)
  have am : Amb (A.deeper (envOfC "is_name" (defScope s_is_name) s.heap.objs.size (a 21) cdv)) 0 := ⟨hr, hgd⟩
  refine ⟨_, (dss_cons (ds_if (dw_t (dw_or (dt_not (dt_tru (de_callB call_isi cad_isi rfl T.m_isinstance bt_isinstance (da_cons (de_var 0) (da_cons (de_ty rfl T.m_str bt_str) da_nil))))) (dw_or1 (dt_not (dt_chain cd_le cd_le de_int (de_callB call_len cad_len rfl T.m_len bt_len (da_cons (de_var 0) da_nil)) (de_globI rfl T.c_NAME_MOST))))))
    (dss_one (ds_ret de_bl))
    dss_nil)
    (dss_one (ds_ret (de_callB (cr_all rfl) cad_all rfl T.m_all bt_all (da_cons (de_lc rfl sc_is_name.nd (di_str (de_var 0)) (blkOk_by (own := [("letter", 1)]) (N := N_is_name) (sc := (defScope s_is_name)) (by decide +kernel))
      (fun _ _ _ _ _ _ => (dgv_name 1 sc_is_name.nd)) (fun _ _ _ _ _ _ => dts_nil) (fun _ _ _ _ _ _ => (de_cmp1 (cd_in am) (de_var 1) (de_globS rfl T.c_NAME_LETTERS)))) da_nil))))), ?_⟩
  intro ds Q h
  obtain ⟨d, rfl, hp, hz, q⟩ := sp1_get h
  have q := lows_same q
  cases d with
  | str x =>
    simp only [dNext, dSeq, dSet, dRet, dRetN, dIf, dDrop, dBreak, dCont, dVar, dC, dCons, dNil, dCB, dCall, dOp, dUn, dTest, dTru, dAnd, dOr, dNot, dAndV, dOrV, dNotV, dIfE, dTup, dLst, dLstO, dFor, dLc, dLcO, dAsg, dgName, dgTup, dgCons, dgNil, dgSub, dMeth, dChain, dIsN, isNP, DL.isNon, truD, dYes, dSl, dNoPart, dPart, dwSeq, dwRng1, dwRng2, dwipe, addP, subP, mulP, fdivP, modP, powP, negP, cmpP, eqP, neP, ixP, lenP, absP, intP, tupleP, listP, listOP, sp1, sp2, sp3, sp4, List.map_cons, List.map_nil, List.replicate_zero, List.replicate_succ, List.length_cons, List.length_nil, List.cons_append, List.nil_append, List.append_nil, List.getElem?_cons_zero, List.getElem?_cons_succ, List.set_cons_zero, List.set_cons_succ, Nat.reduceSub, Nat.reduceAdd, seqOf_tup, seqOf_lst, lstOf_lst, lstOf_put, seqOf_put, put_same, put_put, atI_0, atI_1, atI_2, atI_3, atI_4, ixN_0, ixN_1, ixN_2, ixN_4, Nat.reduceLeDiff, Int.reduceEq, Int.reduceLT, Int.reduceLE, decide_true, decide_false, eq_self, if_true, if_false, Bool.false_eq_true, Bool.not_true, Bool.not_false, reduceIte]
    refine isi_of rfl rfl ?_
    simp only [subTy, beq_self_eq_true, Bool.true_or, dNext, dSeq, dSet, dRet, dRetN, dIf, dDrop, dBreak, dCont, dVar, dC, dCons, dNil, dCB, dCall, dOp, dUn, dTest, dTru, dAnd, dOr, dNot, dAndV, dOrV, dNotV, dIfE, dTup, dLst, dLstO, dFor, dLc, dLcO, dAsg, dgName, dgTup, dgCons, dgNil, dgSub, dMeth, dChain, dIsN, isNP, DL.isNon, truD, dYes, dSl, dNoPart, dPart, dwSeq, dwRng1, dwRng2, dwipe, addP, subP, mulP, fdivP, modP, powP, negP, cmpP, eqP, neP, ixP, lenP, absP, intP, tupleP, listP, listOP, sp1, sp2, sp3, sp4, List.map_cons, List.map_nil, List.replicate_zero, List.replicate_succ, List.length_cons, List.length_nil, List.cons_append, List.nil_append, List.append_nil, List.getElem?_cons_zero, List.getElem?_cons_succ, List.set_cons_zero, List.set_cons_succ, Nat.reduceSub, Nat.reduceAdd, seqOf_tup, seqOf_lst, lstOf_lst, lstOf_put, seqOf_put, put_same, put_put, atI_0, atI_1, atI_2, atI_3, atI_4, ixN_0, ixN_1, ixN_2, ixN_4, Nat.reduceLeDiff, Int.reduceEq, Int.reduceLT, Int.reduceLE, decide_true, decide_false, eq_self, if_true, if_false, Bool.false_eq_true, Bool.not_true, Bool.not_false, reduceIte]
    refine ⟨hz x rfl, ?_⟩
    simp only [isName] at q
    by_cases h1 : 1 ≤ (x.length : Int)
    · simp only [decide_eq_true h1, Bool.true_and] at q ⊢
      by_cases h2 : (x.length : Int) ≤ 8
      · simp only [decide_eq_true h2, Bool.true_and, dwStr, dNext, dSeq, dSet, dRet, dRetN, dIf, dDrop, dBreak, dCont, dVar, dC, dCons, dNil, dCB, dCall, dOp, dUn, dTest, dTru, dAnd, dOr, dNot, dAndV, dOrV, dNotV, dIfE, dTup, dLst, dLstO, dFor, dLc, dLcO, dAsg, dgName, dgTup, dgCons, dgNil, dgSub, dMeth, dChain, dIsN, isNP, DL.isNon, truD, dYes, dSl, dNoPart, dPart, dwSeq, dwRng1, dwRng2, dwipe, addP, subP, mulP, fdivP, modP, powP, negP, cmpP, eqP, neP, ixP, lenP, absP, intP, tupleP, listP, listOP, sp1, sp2, sp3, sp4, List.map_cons, List.map_nil, List.replicate_zero, List.replicate_succ, List.length_cons, List.length_nil, List.cons_append, List.nil_append, List.append_nil, List.getElem?_cons_zero, List.getElem?_cons_succ, List.set_cons_zero, List.set_cons_succ, Nat.reduceSub, Nat.reduceAdd, seqOf_tup, seqOf_lst, lstOf_lst, lstOf_put, seqOf_put, put_same, put_put, atI_0, atI_1, atI_2, atI_3, atI_4, ixN_0, ixN_1, ixN_2, ixN_4, Nat.reduceLeDiff, Int.reduceEq, Int.reduceLT, Int.reduceLE, decide_true, decide_false, eq_self, if_true, if_false, Bool.false_eq_true, Bool.not_true, Bool.not_false, reduceIte] at q ⊢
        refine ⟨hz x rfl, lc_map (fun d => match d with
          | .str y => .bl (y.cps.toList.all inAZ)
          | _ => .bl false) trivial _ _ (fun d hd Q q => ?_) ?_⟩
        · obtain ⟨c, hc, rfl⟩ := List.mem_map.mp hd
          simp only [inP, sgD, dNext, dSeq, dSet, dRet, dRetN, dIf, dDrop, dBreak, dCont, dVar, dC, dCons, dNil, dCB, dCall, dOp, dUn, dTest, dTru, dAnd, dOr, dNot, dAndV, dOrV, dNotV, dIfE, dTup, dLst, dLstO, dFor, dLc, dLcO, dAsg, dgName, dgTup, dgCons, dgNil, dgSub, dMeth, dChain, dIsN, isNP, DL.isNon, truD, dYes, dSl, dNoPart, dPart, dwSeq, dwRng1, dwRng2, dwipe, addP, subP, mulP, fdivP, modP, powP, negP, cmpP, eqP, neP, ixP, lenP, absP, intP, tupleP, listP, listOP, sp1, sp2, sp3, sp4, List.map_cons, List.map_nil, List.replicate_zero, List.replicate_succ, List.length_cons, List.length_nil, List.cons_append, List.nil_append, List.append_nil, List.getElem?_cons_zero, List.getElem?_cons_succ, List.set_cons_zero, List.set_cons_succ, Nat.reduceSub, Nat.reduceAdd, seqOf_tup, seqOf_lst, lstOf_lst, lstOf_put, seqOf_put, put_same, put_put, atI_0, atI_1, atI_2, atI_3, atI_4, ixN_0, ixN_1, ixN_2, ixN_4, Nat.reduceLeDiff, Int.reduceEq, Int.reduceLT, Int.reduceLE, decide_true, decide_false, eq_self, if_true, if_false, Bool.false_eq_true, Bool.not_true, Bool.not_false, reduceIte]
          simp only [sgD, List.all_cons, List.all_nil, Bool.and_true, inAZ] at q
          simpa using q
        · have e : (signsD x).map (fun d => match d with
            | .str y => D.bl (y.cps.toList.all inAZ)
            | _ => .bl false) = (x.cps.toList.map inAZ).map D.bl := by
            unfold signsD
            rw [List.map_map, List.map_map]
            refine List.map_congr_left fun c _ => ?_
            simp [sgD]
          rw [e]
          simp only [allP, dNext, dSeq, dSet, dRet, dRetN, dIf, dDrop, dBreak, dCont, dVar, dC, dCons, dNil, dCB, dCall, dOp, dUn, dTest, dTru, dAnd, dOr, dNot, dAndV, dOrV, dNotV, dIfE, dTup, dLst, dLstO, dFor, dLc, dLcO, dAsg, dgName, dgTup, dgCons, dgNil, dgSub, dMeth, dChain, dIsN, isNP, DL.isNon, truD, dYes, dSl, dNoPart, dPart, dwSeq, dwRng1, dwRng2, dwipe, addP, subP, mulP, fdivP, modP, powP, negP, cmpP, eqP, neP, ixP, lenP, absP, intP, tupleP, listP, listOP, sp1, sp2, sp3, sp4, List.map_cons, List.map_nil, List.replicate_zero, List.replicate_succ, List.length_cons, List.length_nil, List.cons_append, List.nil_append, List.append_nil, List.getElem?_cons_zero, List.getElem?_cons_succ, List.set_cons_zero, List.set_cons_succ, Nat.reduceSub, Nat.reduceAdd, seqOf_tup, seqOf_lst, lstOf_lst, lstOf_put, seqOf_put, put_same, put_put, atI_0, atI_1, atI_2, atI_3, atI_4, ixN_0, ixN_1, ixN_2, ixN_4, Nat.reduceLeDiff, Int.reduceEq, Int.reduceLT, Int.reduceLE, decide_true, decide_false, eq_self, if_true, if_false, Bool.false_eq_true, Bool.not_true, Bool.not_false, reduceIte, Option.bind, boolsOf_map]
          simpa [List.all_map] using q
      · simp only [decide_eq_false h2, Bool.false_and, dNext, dSeq, dSet, dRet, dRetN, dIf, dDrop, dBreak, dCont, dVar, dC, dCons, dNil, dCB, dCall, dOp, dUn, dTest, dTru, dAnd, dOr, dNot, dAndV, dOrV, dNotV, dIfE, dTup, dLst, dLstO, dFor, dLc, dLcO, dAsg, dgName, dgTup, dgCons, dgNil, dgSub, dMeth, dChain, dIsN, isNP, DL.isNon, truD, dYes, dSl, dNoPart, dPart, dwSeq, dwRng1, dwRng2, dwipe, addP, subP, mulP, fdivP, modP, powP, negP, cmpP, eqP, neP, ixP, lenP, absP, intP, tupleP, listP, listOP, sp1, sp2, sp3, sp4, List.map_cons, List.map_nil, List.replicate_zero, List.replicate_succ, List.length_cons, List.length_nil, List.cons_append, List.nil_append, List.append_nil, List.getElem?_cons_zero, List.getElem?_cons_succ, List.set_cons_zero, List.set_cons_succ, Nat.reduceSub, Nat.reduceAdd, seqOf_tup, seqOf_lst, lstOf_lst, lstOf_put, seqOf_put, put_same, put_put, atI_0, atI_1, atI_2, atI_3, atI_4, ixN_0, ixN_1, ixN_2, ixN_4, Nat.reduceLeDiff, Int.reduceEq, Int.reduceLT, Int.reduceLE, decide_true, decide_false, eq_self, if_true, if_false, Bool.false_eq_true, Bool.not_true, Bool.not_false, reduceIte] at q ⊢
        exact q
    · simp only [decide_eq_false h1, Bool.false_and, dNext, dSeq, dSet, dRet, dRetN, dIf, dDrop, dBreak, dCont, dVar, dC, dCons, dNil, dCB, dCall, dOp, dUn, dTest, dTru, dAnd, dOr, dNot, dAndV, dOrV, dNotV, dIfE, dTup, dLst, dLstO, dFor, dLc, dLcO, dAsg, dgName, dgTup, dgCons, dgNil, dgSub, dMeth, dChain, dIsN, isNP, DL.isNon, truD, dYes, dSl, dNoPart, dPart, dwSeq, dwRng1, dwRng2, dwipe, addP, subP, mulP, fdivP, modP, powP, negP, cmpP, eqP, neP, ixP, lenP, absP, intP, tupleP, listP, listOP, sp1, sp2, sp3, sp4, List.map_cons, List.map_nil, List.replicate_zero, List.replicate_succ, List.length_cons, List.length_nil, List.cons_append, List.nil_append, List.append_nil, List.getElem?_cons_zero, List.getElem?_cons_succ, List.set_cons_zero, List.set_cons_succ, Nat.reduceSub, Nat.reduceAdd, seqOf_tup, seqOf_lst, lstOf_lst, lstOf_put, seqOf_put, put_same, put_put, atI_0, atI_1, atI_2, atI_3, atI_4, ixN_0, ixN_1, ixN_2, ixN_4, Nat.reduceLeDiff, Int.reduceEq, Int.reduceLT, Int.reduceLE, decide_true, decide_false, eq_self, if_true, if_false, Bool.false_eq_true, Bool.not_true, Bool.not_false, reduceIte] at q ⊢
      exact q
  | ref b => cases hp
  | obj C n xs => cases hp
  | ty n => cases hp
  | dK a b => cases hp
  | dT a b => cases hp
  | _ =>
    simp only [dNext, dSeq, dSet, dRet, dRetN, dIf, dDrop, dBreak, dCont, dVar, dC, dCons, dNil, dCB, dCall, dOp, dUn, dTest, dTru, dAnd, dOr, dNot, dAndV, dOrV, dNotV, dIfE, dTup, dLst, dLstO, dFor, dLc, dLcO, dAsg, dgName, dgTup, dgCons, dgNil, dgSub, dMeth, dChain, dIsN, isNP, DL.isNon, truD, dYes, dSl, dNoPart, dPart, dwSeq, dwRng1, dwRng2, dwipe, addP, subP, mulP, fdivP, modP, powP, negP, cmpP, eqP, neP, ixP, lenP, absP, intP, tupleP, listP, listOP, sp1, sp2, sp3, sp4, List.map_cons, List.map_nil, List.replicate_zero, List.replicate_succ, List.length_cons, List.length_nil, List.cons_append, List.nil_append, List.append_nil, List.getElem?_cons_zero, List.getElem?_cons_succ, List.set_cons_zero, List.set_cons_succ, Nat.reduceSub, Nat.reduceAdd, seqOf_tup, seqOf_lst, lstOf_lst, lstOf_put, seqOf_put, put_same, put_put, atI_0, atI_1, atI_2, atI_3, atI_4, ixN_0, ixN_1, ixN_2, ixN_4, Nat.reduceLeDiff, Int.reduceEq, Int.reduceLT, Int.reduceLE, decide_true, decide_false, eq_self, if_true, if_false, Bool.false_eq_true, Bool.not_true, Bool.not_false, reduceIte]
    exact isi_of rfl rfl q
/-- one more piece, of those that fit -/
def PieceC (p : Piece) : Prop := isName (.str p.1) = true ∧ SolidC p.2
theorem name_ok {s : Str} (h : isName (.str s) = true) : nmOk s := by
  simp only [isName, Bool.and_eq_true, decide_eq_true_eq] at h
  obtain ⟨⟨_, h8⟩, ha⟩ := h
  refine ⟨by omega, ?_⟩
  unfold PyData.strOk
  rw [← Array.all_toList]
  rw [List.all_eq_true] at ha ⊢
  intro c hc
  have h := of_decide_eq_true (ha c hc)
  have hA : ∀ c ∈ ("abcdefghijklmnopqrstuvwxyz" : Str).cps.toList, c < 1114112 := by decide +kernel
  exact decide_eq_true (hA c h)
theorem box_bd {c : C3} (h : inBox c) (k : Int) : -(2 ^ 60) < cAt c k ∧ cAt c k < 2 ^ 60 := by
  obtain ⟨⟨h0, h1⟩, ⟨h2, h3⟩, h4, h5⟩ := h
  exact cAt_all (P := fun z => -(2 ^ 60) < z ∧ z < 2 ^ 60) (x := c.1) (y := c.2.1) (z := c.2.2) (by omega) (by omega) (by omega) k
def apart (p q : Piece) : Prop := ∀ c ∈ p.2, c ∉ q.2
/-- what adding an item tells: none, or the error -/
inductive AddRel (ps : List Piece) (k it : D) : Option (Nat × D × Str) → Prop
  | name : (∀ x v, it = .tup [x, v] → isName x = false) → AddRel ps k it (some (5, k, "BadName"))
  | solid {s : Str} {v : D} : it = .tup [.str s, v] → isName (.str s) = true → isSolid v = false → AddRel ps k it (some (6, .str s, "BadSolid"))
  | same {p : Piece} : it = pcD p → PieceC p → p.1 ∈ ps.map (·.1) → AddRel ps k it (some (7, .str p.1, "SameName"))
  | over {p : Piece} : it = pcD p → PieceC p → p.1 ∉ ps.map (·.1) → (∃ q ∈ ps, ¬ apart p q) → AddRel ps k it (some (8, .str p.1, "Overlap"))
  | ok {p : Piece} : it = pcD p → PieceC p → p.1 ∉ ps.map (·.1) → (∀ q ∈ ps, apart p q) → AddRel ps k it none
/-- an item that may be asked about -/
structure ItemOk (it : D) : Prop where
  pl : plain it = true
  nm : ∀ s v, it = .tup [.str s, v] → s.length ≤ sizeLine
  sz : ∀ x xs, it = .tup [x, .tup xs] → xs.length ≤ 100000
def sp_Assembly__add_piece (C : Nat → Addr) : DSp := sp3 fun d k it S Q E => ∃ (a r : Addr) (ps : List Piece), d = .ref a ∧ S a = some (.obj (C 0) fPcs [.ref r]) ∧ S r = some (.lst (ps.map pcD)) ∧ ItemOk it ∧ (∀ q ∈ ps, PieceC q) ∧ ps.length ≤ 6 ∧
  ∀ w, AddRel ps k it w → match w with
    | none => ∀ p, it = pcD p → Q .non (put S r (.lst ((ps ++ [p]).map pcD)))
    | some (n, pl, wd) => E (C n) errN [pl, .str wd] S
theorem sp_len_Assembly__add_piece {C : Nat → Addr} : ∀ ds S Q E, sp_Assembly__add_piece C ds S Q E → ds.length = 3 := sp3_len
theorem isName_str {x : D} (h : isName x = true) : ∃ s, x = .str s := by
  cases x <;> first | exact ⟨_, rfl⟩ | cases h
theorem ok_Assembly__add_piece (T : Txt K mg C a fd) (G_Assembly_names : DFn P w K mg base 1 (a 13) (fd 13) ["self"] (sp_Assembly_names C)) (G_BadName___init__ : FnOk P w K mg base (L2.CX P w) 2 (a 17) (fd 17) ["self", "place"] (spErr K "BadName")) (G_BadSolid___init__ : FnOk P w K mg base (L2.CX P w) 2 (a 18) (fd 18) ["self", "place"] (spErr K "BadSolid")) (G_Overlap___init__ : FnOk P w K mg base (L2.CX P w) 2 (a 20) (fd 20) ["self", "place"] (spErr K "Overlap")) (G_SameName___init__ : FnOk P w K mg base (L2.CX P w) 2 (a 19) (fd 19) ["self", "place"] (spErr K "SameName")) (G_is_name : DFn P w K mg base 1 (a 21) (fd 21) ["value"] sp_is_name) (G_is_solid : DFn P w K mg base 3 (a 4) (fd 4) ["value"] sp_is_solid) : DFn P w K mg base 4 (a 22) (fd 22) ["self", "place", "item"] (sp_Assembly__add_piece C) := by
  refine dfn_of T.F_Assembly__add_piece sc_Assembly__add_piece sp_len_Assembly__add_piece (fun cdv A outer s B Ed hr hgd => ?_)
  have am : Amb (A.deeper (envOfC "Assembly._add_piece" (defScope s_Assembly__add_piece) s.heap.objs.size (a 22) cdv)) 3 := ⟨hr, hgd⟩
  refine ⟨_, (dss_cons (ds_if (dw_t (dw_or (dt_not (dt_tru (de_callB call_isi cad_isi rfl T.m_isinstance bt_isinstance (da_cons (de_var 2) (da_cons (de_ty rfl T.m_tuple bt_tuple) da_nil))))) (dw_or (dt_cmp1 (cd_ne am) (de_callB call_len cad_len rfl T.m_len bt_len (da_cons (de_var 2) da_nil)) de_int) (dw_or1 (dt_not (dt_tru (de_call G_is_name (am.room.mono (by decide)) am.guards rfl T.g_is_name T.F_is_name.kp T.b_is_name .nil closed_nil dtk_body (da_cons (de_ix (de_var 2) de_int) da_nil))))))))
    (dss_one (ds_raise rfl T.er_BadName.c T.ii_BadName T.ti_BadName G_BadName___init__ (am.room.mono (by decide)) T.b_BadName___init__ rfl T.gc_BadName dtk_body (da_cons (de_var 1) da_nil)))
    dss_nil)
    (dss_cons (ds_asg (de_var 2) (dg_tup (n := 2) rfl (dgs_cons (dg_name 3 sc_Assembly__add_piece.nd) (dgs_cons (dg_name 4 sc_Assembly__add_piece.nd) dgs_nil))))
    (dss_cons (ds_if (dt_not (dt_tru (de_call G_is_solid (am.room.mono (by decide)) am.guards rfl T.g_is_solid T.F_is_solid.kp T.b_is_solid .nil closed_nil dtk_body (da_cons (de_var 4) da_nil))))
    (dss_one (ds_raise rfl T.er_BadSolid.c T.ii_BadSolid T.ti_BadSolid G_BadSolid___init__ (am.room.mono (by decide)) T.b_BadSolid___init__ rfl T.gc_BadSolid dtk_body (da_cons (de_var 3) da_nil)))
    dss_nil)
    (dss_cons (ds_if (dt_cmp1 (cd_in am) (de_var 3) (de_callM0 T.cl_Assembly T.me_Assembly_names G_Assembly_names (am.room.mono (by decide)) am.guards T.b_Assembly_names .nil closed_nil dtk_body (de_var 0)))
    (dss_one (ds_raise rfl T.er_SameName.c T.ii_SameName T.ti_SameName G_SameName___init__ (am.room.mono (by decide)) T.b_SameName___init__ rfl T.gc_SameName dtk_body (da_cons (de_var 3) da_nil)))
    dss_nil)
    (dss_cons (ds_for (passes_of rfl) rfl (di_seq (de_fld T.cl_Assembly T.na_Assembly__pieces (de_var 0))) (dg_tup (n := 2) rfl (dgs_cons (dg_name 5 sc_Assembly__add_piece.nd) (dgs_cons (dg_name 6 sc_Assembly__add_piece.nd) dgs_nil)))
    (dss_one (ds_if (dt_tru (de_callB (cr_any rfl) cad_any rfl T.m_any bt_any (da_cons (de_lc rfl sc_Assembly__add_piece.nd (di_seq (de_var 4)) (blkOk_by (own := [("cell", 7)]) (N := N_Assembly__add_piece) (sc := (defScope s_Assembly__add_piece)) (by decide +kernel))
      (fun _ _ _ _ _ _ => (dgv_name 7 sc_Assembly__add_piece.nd)) (fun _ _ _ _ _ _ => dts_nil) (fun _ _ _ _ _ _ => (de_cmp1 (cd_in am) (de_var 7) (de_var 6)))) da_nil)))
    (dss_one (ds_raise rfl T.er_Overlap.c T.ii_Overlap T.ti_Overlap G_Overlap___init__ (am.room.mono (by decide)) T.b_Overlap___init__ rfl T.gc_Overlap dtk_body (da_cons (de_var 3) da_nil)))
    dss_nil)))
    (dss_one (ds_expr (de_append (de_fld T.cl_Assembly T.na_Assembly__pieces (de_var 0)) (da_cons (de_var 2) da_nil))))))))), ?_⟩
  intro ds Q h
  obtain ⟨_, e, it, rfl, a, r, ps, rfl, ha, hr, io, hps, hl, q⟩ := sp3_get h
  cases it with
  | tup xs =>
    simp!
    refine isi_yes rfl rfl ?_
    simp!
    by_cases h2 : xs.length = 2
    · obtain ⟨x, v, rfl⟩ : ∃ x v, xs = [x, v] := by
        match xs, h2 with
        | [x, v], _ => exact ⟨x, v, rfl⟩
      have e2 : (([x, v] : List D).length : Int) = 2 := rfl
      simp! [e2]
      refine ⟨(plainAll_iff.mp io.pl) x (by simp), fun s e => by subst e; exact io.nm s v rfl, ?_⟩
      cases hn : isName x with
      | false =>
        simp!
        exact q _ (.name fun x' v' e => by cases e; exact hn)
      | true =>
        obtain ⟨s, rfl⟩ := isName_str hn
        have oN : nmOk s := name_ok hn
        simp!
        refine ⟨trivial, ?_⟩
        refine ⟨(plainAll_iff.mp io.pl) v (by simp), fun xs e => by subst e; exact io.sz _ xs rfl, ?_⟩
        cases hs : isSolid v with
        | false =>
          simp!
          exact q _ (.solid rfl hn hs)
        | true =>
          obtain ⟨cs, rfl, hc⟩ : ∃ cs : List C3, v = .tup (cs.map cD) ∧ SolidC cs := by
            classical
            exact of_decide_eq_true hs
          have hp : PieceC (s, cs) := ⟨hn, hc⟩
          simp!
          refine ⟨inst_of (objOf_ref ha) (by decide +kernel), ?_⟩
          refine ⟨ps, ⟨_, objOf_ref ha, seqOf_ref hr⟩, ?_⟩
          simp!
          refine in_strs rfl oN (fun t ht => ?_) ?_
          · obtain ⟨p, hp, rfl⟩ := List.mem_map.mp ht
            exact name_ok (hps p hp).1
          by_cases hm : s ∈ ps.map (·.1)
          · rw [decide_eq_true hm]
            have b1 : (false != true) = true := rfl
            simp! [b1]
            exact q _ (.same (p := (s, cs)) rfl hp hm)
          rw [decide_eq_false hm]
          have b0 : (false != false) = false := rfl
          simp! [b0]
          refine fld_do (objOf_ref ha) rfl ?_
          refine zwSeq_of (seqOf_ref hr) fun ok hok => ?_
          simp!
          refine for_inv (fun k env S' => S' = B.S ∧ (∀ q ∈ ps.take k, apart (s, cs) q) ∧ ∃ x5 x6 x7, env = [some (.ref a), some e, some (.tup [.str s, .tup (cs.map cD)]), some (.str s), some (.tup (cs.map cD)), x5, x6, x7]) ⟨rfl, fun q hq => by simp at hq, _, _, _, rfl⟩ (fun k d env S' Z hd ⟨hS, hap, x5, x6, x7, e⟩ hz => ?_) (fun env S' ⟨hS, hap, x5, x6, x7, e⟩ => ?_)
          · subst hS e
            refine ⟨hok, ?_⟩
            rw [List.getElem?_map] at hd
            obtain ⟨p2, hp2, rfl⟩ : ∃ p, ps[k]? = some p ∧ pcD p = d := by
              cases e : ps[k]? with
              | none => rw [e] at hd; cases hd
              | some p => rw [e] at hd; cases hd; exact ⟨p, rfl, rfl⟩
            have hm2 := List.mem_of_getElem? hp2
            simp! [pcD]
            refine ⟨trivial, ?_⟩
            refine lc_cells (fun c => .bl (decide (c ∈ p2.2))) trivial (fun c hcm Q q => ?_) ?_
            · simp!
              refine in_cells rfl (box_bd (hc.box c hcm)) (fun b hb => box_bd ((hps p2 hm2).2.box b hb)) ?_
              simpa using q
            · simp!
              refine any_do _ ?_
              cases ho : cs.any fun c => decide (c ∈ p2.2) with
              | true =>
                simp!
                refine q _ (.over (p := (s, cs)) rfl hp hm ⟨p2, hm2, fun h => ?_⟩)
                obtain ⟨c, hc1, hc2⟩ := List.any_eq_true.mp ho
                exact h c hc1 (of_decide_eq_true hc2)
              | false =>
                simp!
                refine hz _ _ ⟨rfl, fun q hq => ?_, _, _, _, rfl⟩
                rw [List.take_add_one, hp2] at hq
                rcases List.mem_append.mp hq with hq | hq
                · exact hap q hq
                · have e : q = p2 := by simpa using hq
                  rw [e]
                  intro c hc1 hc2
                  have := List.any_eq_false.mp ho c hc1
                  exact this (decide_eq_true hc2)
          · subst hS e
            refine ⟨hok, ?_⟩
            simp!
            refine fld_do (objOf_ref ha) rfl ?_
            simp!
            refine ⟨by unfold tyD; simp only [hr], zo_append hr (szL (by rw [List.length_map]; omega)) ?_⟩
            simp!
            rw [List.length_map, List.take_length] at hap
            have q := q _ (.ok (p := (s, cs)) rfl hp hm hap) (s, cs) rfl
            rw [List.map_append] at q
            exact lows_same q
    · rw [decide_eq_false (show ¬ (xs.length : Int) = 2 by omega)]
      simp!
      exact q _ (.name fun x v e => by cases e; exact absurd rfl h2)
  | ref b => cases io.pl
  | obj C n xs => cases io.pl
  | ty n => cases io.pl
  | dK a b => cases io.pl
  | dT a b => cases io.pl
  | _ =>
    simp!
    refine isi_no rfl rfl rfl ?_
    simp!
    exact q _ (.name fun x v e => by cases e)
/-- an assembly is made -/
structure AsmOk (ps : List Piece) : Prop where
  ne : ps ≠ []
  few : ps.length ≤ 6
  all : ∀ p ∈ ps, PieceC p
  names : (ps.map (·.1)).Nodup
  apart : ps.Pairwise fun p q => LW.apart q p
/-- pieces that go together -/
structure PcsOk (ps : List Piece) : Prop where
  all : ∀ p ∈ ps, PieceC p
  names : (ps.map (·.1)).Nodup
  apart : ps.Pairwise fun p q => LW.apart q p
/-- what making an assembly tells: none, or the error -/
inductive MkRel (xs : List D) : Option (Nat × D × Str) → Prop
  | count : ¬ (1 ≤ xs.length ∧ xs.length ≤ 6) → MkRel xs (some (4, .non, "BadCount"))
  | bad {k : Nat} {it : D} {ps : List Piece} {w : Nat × D × Str} : 1 ≤ xs.length → xs.length ≤ 6 → xs[k]? = some it → xs.take k = ps.map pcD → PcsOk ps → AddRel ps (.int k) it (some w) → MkRel xs (some w)
  | ok {ps : List Piece} : xs = ps.map pcD → AsmOk ps → MkRel xs none
def sp_Assembly___init__ (C : Nat → Addr) : DSp := sp2 fun d e S Q E => ∃ (a : Addr) (xs : List D), d = .ref a ∧ S a = some (.obj (C 0) [] []) ∧ lstOf S e = some xs ∧ (∀ it ∈ xs, ItemOk it) ∧
  ∀ w, MkRel xs w → match w with
    | none => ∀ ps, xs = ps.map pcD → AsmOk ps → ∀ r S', r ≠ a → S r = none → S' r = some (.lst (ps.map pcD)) → S' a = some (.obj (C 0) fPcs [.ref r]) → (∀ b o, b ≠ a → S b = some o → S' b = some o) → Q .non S'
    | some (n, pl, wd) => ∀ S', (∀ b o, b ≠ a → S b = some o → S' b = some o) → E (C n) errN [pl, .str wd] S'
theorem sp_len_Assembly___init__ {C : Nat → Addr} : ∀ ds S Q E, sp_Assembly___init__ C ds S Q E → ds.length = 2 := sp2_len
/-- making, of any items: where all fit, the assembly; otherwise the error; what stood stands -/
theorem make_any {C : Nat → Addr} {d : D} {S : Sto} {xs : List D} {Q : DQ} {E : DX} (h : lstOf S d = some xs) (io : ∀ it ∈ xs, ItemOk it)
    (q : ∀ ps, xs = ps.map pcD → AsmOk ps → Q (asmD (C 0) ps) S) (qe : ∀ n pl wd, MkRel xs (some (n, pl, wd)) → ∀ S', (∀ b o, S b = some o → S' b = some o) → E (C n) errN [pl, .str wd] S') :
    ∀ a, S a = none → sp_Assembly___init__ C (.ref a :: ([d] ++ [])) (put S a (.obj (C 0) [] [])) (zMk (lowsD Q) a) E := by
  intro a ha
  have h' : lstOf (put S a (.obj (C 0) [] [])) d = some xs := by
    cases d with
    | ref b =>
      have hb : b ≠ a := fun e => by
        subst e
        unfold lstOf at h
        simp [ha] at h
      unfold lstOf at h ⊢
      simp only at h ⊢
      rw [put_ne hb]; exact h
    | _ => exact h
  have kp : ∀ {S' : Sto}, (∀ b o, b ≠ a → put S a (.obj (C 0) [] []) b = some o → S' b = some o) → ∀ b o, S b = some o → S' b = some o := fun {S'} h3 b o e =>
    have ne : b ≠ a := fun z => by rw [z, ha] at e; cases e
    h3 b o ne (by rw [put_ne ne]; exact e)
  refine ⟨a, xs, rfl, put_same, h', io, fun w hw => ?_⟩
  cases w with
  | none =>
    intro ps e ok r S' ne hr h1 h2 h3
    refine ⟨rfl, asmD (C 0) ps, S, kp h3, ?_, q ps e ok⟩
    have hr' : S r = none := by rw [put_ne ne] at hr; exact hr
    exact .obj h2 ha (.cons (.lst h1 hr' (LowL.same _)) .nil)
  | some w =>
    obtain ⟨n, pl, wd⟩ := w
    exact fun S' h3 => qe n pl wd hw S' (kp h3)
theorem piece_item {p : Piece} (h : PieceC p) : ItemOk (pcD p) := by
  obtain ⟨s, cs⟩ := p
  refine ⟨?_, fun s' v e => ?_, fun x xs e => ?_⟩
  · refine plainAll_iff.mpr fun x hx => ?_
    simp only [List.mem_cons, List.mem_nil_iff, or_false] at hx
    rcases hx with rfl | rfl
    · rfl
    · refine plainAll_iff.mpr fun x hx => ?_
      obtain ⟨c, _, rfl⟩ := List.mem_map.mp hx
      rfl
  · unfold pcD at e
    cases e
    exact Nat.le_trans (name_ok h.1).1 (szL (by decide))
  · unfold pcD at e
    cases e
    rw [List.length_map]; have h40 : cs.length ≤ 40 := h.2.few; show cs.length ≤ 100000; omega
theorem pcD_inj {p q : Piece} (h : pcD p = pcD q) : p = q := by
  obtain ⟨s, cs⟩ := p
  obtain ⟨t, es⟩ := q
  unfold pcD at h
  injection h with h
  injection h with h1 h2
  injection h1 with h1
  injection h2 with h2 _
  injection h2 with h2
  have e1 : s = t := h1
  have e2 : cs = es := cDs_inj h2
  rw [e1, e2]
theorem pcDs_inj : ∀ {ps qs : List Piece}, ps.map pcD = qs.map pcD → ps = qs
  | [], [], _ => rfl
  | [], _ :: _, h => by cases h
  | _ :: _, [], h => by cases h
  | p :: ps, q :: qs, h => by
    rw [List.map_cons, List.map_cons] at h
    injection h with h1 h2
    rw [pcD_inj h1, pcDs_inj h2]
/-- pieces that go together make one -/
theorem AsmOk.pcs {ps : List Piece} (ok : AsmOk ps) : PcsOk ps := ⟨ok.all, ok.names, ok.apart⟩
/-- good pieces: no error -/
theorem mk_good {ps : List Piece} {w : Option (Nat × D × Str)} (ok : AsmOk ps) (h : MkRel (ps.map pcD) w) : w = none := by
  cases h with
  | count h =>
    have := List.length_pos_iff.mpr ok.ne
    have := ok.few
    rw [List.length_map] at h
    omega
  | ok _ _ => rfl
  | @bad k it qs w h1 h6 hk ht pok ha =>
    exfalso
    rw [← List.map_take] at ht
    have e := pcDs_inj ht
    subst e
    rw [List.getElem?_map] at hk
    obtain ⟨p, hp, e⟩ : ∃ p, ps[k]? = some p ∧ pcD p = it := by
      cases e : ps[k]? with
      | none => rw [e] at hk; cases hk
      | some p => rw [e] at hk; cases hk; exact ⟨p, rfl, rfl⟩
    have et : ps.take (k + 1) = ps.take k ++ [p] := by rw [List.take_add_one, hp]; rfl
    have hpc := ok.all p (List.mem_of_getElem? hp)
    have n2 : ((ps.take k ++ [p]).map (·.1)).Nodup := by rw [← et, List.map_take]; exact ok.names.sublist (List.take_sublist _ _)
    have a2 : (ps.take k ++ [p]).Pairwise fun p q => LW.apart q p := by rw [← et]; exact ok.apart.sublist (List.take_sublist _ _)
    have nm : p.1 ∉ (ps.take k).map (·.1) := fun hm => by
      rw [List.map_append] at n2
      exact (List.nodup_append.mp n2).2.2 _ hm _ (by simp) rfl
    have ap : ∀ q ∈ ps.take k, LW.apart p q := fun q hq => (List.pairwise_append.mp a2).2.2 q hq p (by simp)
    subst e
    cases ha with
    | name h => have := h _ _ rfl; rw [hpc.1] at this; cases this
    | solid e _ h =>
      unfold pcD at e
      cases e
      rw [isSolid_yes hpc.2] at h; cases h
    | same e _ h => rw [← pcD_inj e] at h; exact nm h
    | over e _ _ h =>
      rw [← pcD_inj e] at h
      obtain ⟨q, hq, hn⟩ := h
      exact hn (ap q hq)
theorem make_asm {C : Nat → Addr} {d : D} {S : Sto} {ps : List Piece} {Q : DQ} {E : DX} (h : lstOf S d = some (ps.map pcD)) (ok : AsmOk ps) (q : Q (asmD (C 0) ps) S) : ∀ a, S a = none → sp_Assembly___init__ C (.ref a :: ([d] ++ [])) (put S a (.obj (C 0) [] [])) (zMk (lowsD Q) a) E :=
  make_any h (fun it hit => by obtain ⟨p, hp, rfl⟩ := List.mem_map.mp hit; exact piece_item (ok.all p hp)) (fun ps' e _ => by rw [← pcDs_inj e]; exact q) fun n pl wd hw => by
    cases mk_good ok hw
theorem len_seq {S : Sto} {d : D} {xs : List D} {Q : DQ} (h : lstOf S d = some xs) (q : Q (.int xs.length) S) : lenP [d] S Q := by
  cases d with
  | lst ys => cases h; exact q
  | ref b =>
    have h' : seqOf S (.ref b) = some xs := h
    unfold lenP; simp only [h']; exact q
  | _ => cases h
/-- an isometry of the cells -/
structure Iso3 (f : C3 → C3) : Prop where
  dist : ∀ a b, dist (f a) (f b) = dist a b
  inj : ∀ a b, f a = f b → a = b
theorem Iso3.reach {f : C3 → C3} (h : Iso3 f) {cs : List C3} {a b : C3} (r : Reach cs a b) : Reach (cs.map f) (f a) (f b) := by
  induction r with
  | refl => exact .refl
  | step _ hc hd ih => exact .step ih (List.mem_map.mpr ⟨_, hc, rfl⟩) (by rw [h.dist]; exact hd)
theorem Iso3.conn {f : C3 → C3} (h : Iso3 f) {cs : List C3} (c : Conn cs) : Conn (cs.map f) := fun a ha b hb => by
  obtain ⟨x, hx, rfl⟩ := List.mem_map.mp ha
  obtain ⟨y, hy, rfl⟩ := List.mem_map.mp hb
  exact h.reach (c x hx y hy)
theorem Iso3.nd {f : C3 → C3} (h : Iso3 f) {cs : List C3} (n : cs.Nodup) : (cs.map f).Nodup := List.pairwise_map.mpr (n.imp fun {a b} ne e => ne (h.inj a b e))
theorem Iso3.solid {f : C3 → C3} (h : Iso3 f) {cs : List C3} (s : SolidC cs) (hb : ∀ c ∈ cs, inBox (f c)) : SolidC (csort (cs.map f)) := by
  have p := csort_perm (cs.map f)
  refine ⟨fun e => s.ne ?_, by rw [p.length_eq, List.length_map]; exact s.few, fun c hc => ?_, csort_asc (h.nd s.asc.nodup), conn_perm p.symm (h.conn s.conn)⟩
  · rw [e] at p
    exact List.map_eq_nil_iff.mp p.symm.eq_nil
  · obtain ⟨x, hx, rfl⟩ := List.mem_map.mp (p.mem_iff.mp hc)
    exact hb x hx
theorem iso_sub (o : C3) : Iso3 (subC o) := ⟨fun a b => by unfold DL.dist subC; dsimp only; omega, fun a b e => by
  obtain ⟨x, y, z⟩ := a
  obtain ⟨u, v, w⟩ := b
  simp only [subC, Prod.mk.injEq] at e ⊢
  omega⟩
theorem iso_add (o : C3) : Iso3 (addC o) := ⟨fun a b => by unfold DL.dist addC; dsimp only; omega, fun a b e => by
  obtain ⟨x, y, z⟩ := a
  obtain ⟨u, v, w⟩ := b
  simp only [addC, Prod.mk.injEq] at e ⊢
  omega⟩
theorem Iso3.comp {f g : C3 → C3} (hf : Iso3 f) (hg : Iso3 g) : Iso3 fun c => g (f c) := ⟨fun a b => by rw [hg.dist, hf.dist], fun a b e => hf.inj _ _ (hg.inj _ _ e)⟩
theorem asc_add {o : C3} {cs : List C3} (h : Asc cs) : Asc (cs.map (addC o)) := List.pairwise_map.mpr (h.imp fun {a b} hl => by
  rw [cLt_iff] at hl ⊢
  unfold addC
  dsimp only
  omega)
theorem asc_sort {cs : List C3} (h : Asc cs) : csort cs = cs := (csort_uniq h.srtd (List.Perm.refl _)).symm
theorem add_sort {o : C3} {cs : List C3} (h : cs.Nodup) : (csort cs).map (addC o) = csort (cs.map (addC o)) := by
  have a := asc_add (o := o) (csort_asc h)
  have e := csort_uniq a.srtd ((csort_perm cs).map (addC o))
  exact e
theorem AsmOk.perm {ps qs : List Piece} (ok : AsmOk ps) (p : qs.Perm ps) : AsmOk qs :=
  ⟨fun e => ok.ne (by subst e; exact p.symm.eq_nil), by rw [p.length_eq]; exact ok.few, fun x hx => ok.all x (p.mem_iff.mp hx), (p.map (·.1)).symm.nodup ok.names, p.symm.pairwise ok.apart fun h c hc hc2 => h c hc2 hc⟩
/-- solids moved alike, under names -/
theorem asm_moved {css : List (List C3)} {ss : List Str} {G : List C3 → List C3} {f : C3 → C3} (hf : Iso3 f) (ne : css ≠ []) (few : css.length ≤ 6) (sol : ∀ cs ∈ css, SolidC cs) (ap : css.Pairwise fun a b => ∀ c ∈ a, c ∉ b)
    (hG : ∀ cs ∈ css, G cs = csort (cs.map f)) (hb : ∀ cs ∈ css, ∀ c ∈ cs, inBox (f c)) (hl : ss.length = css.length) (hn : ∀ s ∈ ss, isName (.str s) = true) (nd : ss.Nodup) : AsmOk (ss.zip (css.map G)) := by
  have l1 : (ss.zip (css.map G)).map (·.1) = ss := List.map_fst_zip (by rw [List.length_map]; omega)
  have l2 : (ss.zip (css.map G)).map (·.2) = css.map G := List.map_snd_zip (by rw [List.length_map]; omega)
  have ll : (ss.zip (css.map G)).length = css.length := by rw [List.length_zip, List.length_map]; omega
  refine ⟨fun e => ?_, by omega, fun p hp => ?_, by rw [l1]; exact nd, ?_⟩
  · rw [e] at ll
    exact ne (List.length_eq_zero_iff.mp ll.symm)
  · obtain ⟨h1, h2⟩ := List.of_mem_zip (show (p.1, p.2) ∈ _ from hp)
    obtain ⟨cs, hcs, e⟩ := List.mem_map.mp h2
    refine ⟨hn _ h1, ?_⟩
    rw [← e, hG cs hcs]
    exact hf.solid (sol cs hcs) (hb cs hcs)
  · have key : ((ss.zip (css.map G)).map (·.2)).Pairwise fun a b : List C3 => ∀ c ∈ b, c ∉ a := by
      rw [l2]
      have h : ∀ {a b : List C3}, [a, b].Sublist css → ∀ c ∈ a, c ∉ b := fun hs => List.pairwise_iff_forall_sublist.mp ap hs
      refine List.pairwise_map.mpr (List.pairwise_iff_forall_sublist.mpr fun {a b} hs => ?_)
      intro c hc hc2
      have ha : a ∈ css := hs.subset (by simp)
      have hbm : b ∈ css := hs.subset (by simp)
      rw [hG b hbm] at hc
      rw [hG a ha] at hc2
      obtain ⟨x, hx, e1⟩ := List.mem_map.mp ((csort_perm _).mem_iff.mp hc)
      obtain ⟨y, hy, e2⟩ := List.mem_map.mp ((csort_perm _).mem_iff.mp hc2)
      have := hf.inj x y (e1.trans e2.symm)
      subst this
      exact h hs x hy hx
    exact List.pairwise_map.mp key
theorem range_get {α : Type} {xs : List α} {f : Nat → D} {e : α → D} (h : ∀ k x, xs[k]? = some x → f k = e x) : (List.range xs.length).map f = xs.map e := by
  apply List.ext_getElem?
  intro i
  rw [List.getElem?_map, List.getElem?_map]
  by_cases hi : i < xs.length
  · rw [List.getElem?_range hi, List.getElem?_eq_getElem hi]
    exact congrArg some (h i _ (List.getElem?_eq_getElem hi))
  · rw [List.getElem?_eq_none (by rw [List.length_range]; omega), List.getElem?_eq_none (by omega)]
    rfl
/-- the greatest coordinate -/
def mxA (css : List (List C3)) (k : Int) : Int := hiI (css.map fun cs => hiI (axs cs k))
theorem le_mxA {css : List (List C3)} {cs : List C3} {c : C3} {k : Int} (h : cs ∈ css) (hc : c ∈ cs) : cAt c k ≤ mxA css k :=
  Int.le_trans (le_hiI (List.mem_map.mpr ⟨c, hc, rfl⟩)) (le_hiI (List.mem_map.mpr ⟨cs, h, rfl⟩))
theorem mxA_mem {css : List (List C3)} {k : Int} (ne : css ≠ []) (h : ∀ cs ∈ css, cs ≠ []) : ∃ cs ∈ css, ∃ c ∈ cs, mxA css k = cAt c k := by
  obtain ⟨cs, hcs, e⟩ := List.mem_map.mp (hiI_mem (ns := css.map fun cs => hiI (axs cs k)) fun e => ne (List.map_eq_nil_iff.mp e))
  obtain ⟨c, hc, e2⟩ := List.mem_map.mp (hiI_mem (ns := axs cs k) fun e => h cs hcs (List.map_eq_nil_iff.mp e))
  exact ⟨cs, hcs, c, hc, by unfold mxA; rw [← e, ← e2]⟩
theorem lo_le {css : List (List C3)} {cs : List C3} {c : C3} {k : Int} (h : cs ∈ css) (hc : c ∈ cs) (k0 : 0 ≤ k) (k3 : k < 3) : cAt (loC css.flatten) k ≤ cAt c k := by
  rw [loC_at _ k k0 k3]
  have m : c ∈ css.flatten := List.mem_flatten.mpr ⟨cs, h, hc⟩
  exact (minI_spec (xs := css.flatten.map fun c => cAt c k) (fun e => by rw [List.map_eq_nil_iff.mp e] at m; cases m)).2 _ (List.mem_map.mpr ⟨c, m, rfl⟩)
theorem shift_box {css : List (List C3)} (hb : ∀ cs ∈ css, ∀ c ∈ cs, inBox c) : ∀ cs ∈ shiftAll css, ∀ c ∈ cs, inBox c := fun cs hcs c hc => by
  unfold shiftAll at hcs
  obtain ⟨ds, hds, rfl⟩ := List.mem_map.mp hcs
  obtain ⟨x, hx, rfl⟩ := List.mem_map.mp ((csort_perm _).mem_iff.mp hc)
  have bx := hb ds hds x hx
  have lo0 : ∀ k, 0 ≤ k → k < 3 → 0 ≤ cAt (loC css.flatten) k := fun k k0 k3 => by
    rw [loC_at _ k k0 k3]
    have ne : css.flatten.map (fun c => cAt c k) ≠ [] := fun e => by
      have m : x ∈ css.flatten := List.mem_flatten.mpr ⟨ds, hds, hx⟩
      rw [List.map_eq_nil_iff.mp e] at m; cases m
    obtain ⟨y, hy, e⟩ := List.mem_map.mp (minI_spec ne).1
    obtain ⟨es, hes, hye⟩ := List.mem_flatten.mp hy
    rw [← e]
    obtain ⟨⟨b0, _⟩, ⟨b2, _⟩, b4, _⟩ := hb es hes y hye
    obtain rfl | rfl | rfl : k = 0 ∨ k = 1 ∨ k = 2 := by omega
    · exact b0
    · exact b2
    · exact b4
  have l0 := lo_le hds hx (k := 0) (by decide) (by decide)
  have l1 := lo_le hds hx (k := 1) (by decide) (by decide)
  have l2 := lo_le hds hx (k := 2) (by decide) (by decide)
  have m0 := lo0 0 (by decide) (by decide)
  have m1 := lo0 1 (by decide) (by decide)
  have m2 := lo0 2 (by decide) (by decide)
  obtain ⟨⟨b0, b1⟩, ⟨b2, b3⟩, b4, b5⟩ := bx
  have c0 : ∀ c : C3, cAt c 0 = c.1 := fun _ => rfl
  have c1 : ∀ c : C3, cAt c 1 = c.2.1 := fun _ => rfl
  have c2 : ∀ c : C3, cAt c 2 = c.2.2 := fun _ => rfl
  rw [c0, c0] at l0
  rw [c1, c1] at l1
  rw [c2, c2] at l2
  rw [c0] at m0
  rw [c1] at m1
  rw [c2] at m2
  exact ⟨⟨by show 0 ≤ x.1 - _; omega, by show x.1 - _ ≤ 15; omega⟩, ⟨by show 0 ≤ x.2.1 - _; omega, by show x.2.1 - _ ≤ 15; omega⟩, by show 0 ≤ x.2.2 - _; omega, by show x.2.2 - _ ≤ 15; omega⟩
theorem ok_Assembly___init__ (T : Txt K mg C a fd) (G_Assembly__add_piece : DFn P w K mg base 4 (a 22) (fd 22) ["self", "place", "item"] (sp_Assembly__add_piece C)) (G_BadCount___init__ : FnOk P w K mg base (L2.CX P w) 2 (a 16) (fd 16) ["self", "place"] (spErr K "BadCount")) : DFn P w K mg base 5 (a 23) (fd 23) ["self", "pieces"] (sp_Assembly___init__ C) := by
  refine dfn_of T.F_Assembly___init__ sc_Assembly___init__ sp_len_Assembly___init__ (fun cdv A outer s B Ed hr hgd => ?_)
  have am : Amb (A.deeper (envOfC "Assembly.__init__" (defScope s_Assembly___init__) s.heap.objs.size (a 23) cdv)) 4 := ⟨hr, hgd⟩
  refine ⟨_, (dss_cons (ds_if (dt_not (dt_chain cd_le cd_le de_int (de_callB call_len cad_len rfl T.m_len bt_len (da_cons (de_var 1) da_nil)) (de_globI rfl T.c_PIECES_MOST)))
    (dss_one (ds_raise0 rfl T.er_BadCount.c T.ii_BadCount T.ti_BadCount G_BadCount___init__ (am.room.mono (by decide)) T.b1_BadCount___init__ rfl T.gc_BadCount dtk_body))
    dss_nil)
    (dss_cons (ds_setF T.cl_Assembly T.na_Assembly__pieces (de_var 0) (de_lstO da_nil))
    (dss_one (ds_for (passes_of rfl) rfl (di_enum rfl T.m_enumerate (da_cons (de_var 1) da_nil)) (dg_tup (n := 2) rfl (dgs_cons (dg_name 2 sc_Assembly___init__.nd) (dgs_cons (dg_name 3 sc_Assembly___init__.nd) dgs_nil)))
    (dss_one (ds_expr (de_callM T.cl_Assembly T.me_Assembly__add_piece G_Assembly__add_piece (am.room.mono (by decide)) am.guards T.b_Assembly__add_piece .nil closed_nil dtk_body (de_var 0) (da_cons (de_var 2) (da_cons (de_var 3) da_nil))))))))), ?_⟩
  intro ds Q h
  obtain ⟨_, e, rfl, a, xs, rfl, ha, he, io, q⟩ := sp2_get h
  dsimp!
  refine len_seq he ?_
  dsimp!
  by_cases h1 : 1 ≤ xs.length
  case neg =>
    rw [decide_eq_false (show ¬ (1 : Int) ≤ (xs.length : Int) by omega)]
    dsimp!
    exact q _ (.count fun h => h1 h.1) _ fun _ _ _ h => h
  rw [decide_eq_true (show (1 : Int) ≤ (xs.length : Int) by omega)]
  dsimp!
  by_cases h6 : xs.length ≤ 6
  case neg =>
    rw [decide_eq_false (show ¬ (xs.length : Int) ≤ 6 by omega)]
    dsimp!
    exact q _ (.count fun h => h6 h.2) _ fun _ _ _ h => h
  rw [decide_eq_true (show (xs.length : Int) ≤ 6 by omega)]
  dsimp!
  intro r hr
  have ra : r ≠ a := fun e => by rw [e, ha] at hr; cases hr
  refine setF_do (by rw [put_ne ra.symm]; exact ha) (by decide) ?_
  dsimp!
  have er : (put (put B.S r (.lst [])) a (.obj (C 0) (putN "_pieces" []) (putX "_pieces" (.ref r) [] []))) r = some (.lst []) := by rw [put_ne ra, put_same]
  have ea : (put (put B.S r (.lst [])) a (.obj (C 0) (putN "_pieces" []) (putX "_pieces" (.ref r) [] []))) a = some (.obj (C 0) fPcs [.ref r]) := put_same
  have ek : ∀ b o, b ≠ a → B.S b = some o → (put (put B.S r (.lst [])) a (.obj (C 0) (putN "_pieces" []) (putX "_pieces" (.ref r) [] []))) b = some o := fun b o nb h => by
    rw [put_ne nb, put_ne fun z => by rw [z, hr] at h; cases h]; exact h
  generalize (put (put B.S r (.lst [])) a (.obj (C 0) (putN "_pieces" []) (putX "_pieces" (.ref r) [] []))) = S1 at er ea ek ⊢
  have start : ∀ ok : Sto → Prop, (∀ S', (∀ b o, b ≠ a → B.S b = some o → S' b = some o) → ok S') → forR (dgTup 2 (dgCons (dgName 2) (dgCons (dgName 3) dgNil))) (dDrop (dCallM (C 0) "_add_piece" (sp_Assembly__add_piece C) [] (wX Ed) (dVar 0) (dCons (dVar 2) (dCons (dVar 3) dNil)))) ok
      { nx := fun x S' => lows Q D.non S', rt := lows Q } (enumD 0 xs) [some (.ref a), some e, none, none] S1 := fun ok1 hok => by
    refine for_vs [2, 3] (fun k vs S' => S' a = some (.obj (C 0) fPcs [.ref r]) ∧ (∃ ps : List Piece, S' r = some (.lst (ps.map pcD)) ∧ xs.take k = ps.map pcD ∧ PcsOk ps) ∧ (∀ b o, b ≠ a → B.S b = some o → S' b = some o) ∧ ∃ x2 x3, vs = [x2, x3]) (xs0 := [none, none]) rfl
      ⟨ea, ⟨[], er, rfl, fun p h => (nomatch h), .nil, .nil⟩, ek, _, _, rfl⟩ (fun k d vs S' Z hd ⟨ha', ⟨ps, hr', ht, pok⟩, hk', x2, x3, ee⟩ hz => ⟨hok _ hk', ?_⟩) (fun vs S' ⟨ha', ⟨ps, hr', ht, pok⟩, hk', x2, x3, ee⟩ => ⟨hok _ hk', ?_⟩)
    · subst ee
      obtain ⟨x, hx, rfl⟩ := enum_get hd
      have hkl : k < xs.length := (List.getElem?_eq_some_iff.mp hx).1
      have et : xs.take (k + 1) = xs.take k ++ [x] := by rw [List.take_add_one, hx]; rfl
      dsimp!
      refine ⟨inst_of (objOf_ref ha') (by decide +kernel), ?_⟩
      have l6 : ps.length ≤ 6 := by
        have := congrArg List.length ht
        rw [List.length_take, List.length_map] at this
        omega
      refine ⟨a, r, ps, rfl, ha', hr', io x (List.mem_of_getElem? hx), pok.all, l6, fun w hw => ?_⟩
      have e0 : (D.int ((0 + k : Nat) : Int)) = .int k := by rw [Nat.zero_add]
      rw [e0] at hw
      cases w with
      | none =>
        intro p ep
        cases hw with
        | @ok p' e' hp' hn' ha'' =>
          have := pcD_inj (ep.symm.trans e')
          subst this
          refine hz [_, _] _ ⟨by rw [put_ne ra.symm]; exact ha', ⟨ps ++ [p], put_same, ?_, ?_, ?_, ?_⟩, fun b o nb h => ?_, _, _, rfl⟩
          · rw [et, ht, ep, List.map_append]; rfl
          · intro q hq
            rcases List.mem_append.mp hq with hq | hq
            · exact pok.all q hq
            · rw [List.mem_singleton.mp hq]; exact hp'
          · rw [List.map_append]
            exact List.nodup_append.mpr ⟨pok.names, by simp, fun s hs t ht e => by
              rw [List.map_cons, List.map_nil, List.mem_singleton] at ht
              exact hn' (by rw [← ht, ← e]; exact hs)⟩
          · exact List.pairwise_append.mpr ⟨pok.apart, by simp, fun q hq t ht => by rw [List.mem_singleton.mp ht]; exact ha'' q hq⟩
          · rw [put_ne fun z => by rw [z, hr] at h; cases h]
            exact hk' b o nb h
      | some w =>
        obtain ⟨n, pl, wd⟩ := w
        exact q _ (.bad h1 h6 hx ht pok hw) _ hk'
    · subst ee
      rw [enum_len, List.take_length] at ht
      have nps : ps ≠ [] := fun e => by subst e; rw [ht] at h1; exact absurd h1 (by decide)
      have ok : AsmOk ps := ⟨nps, by rw [ht, List.length_map] at h6; exact h6, pok.all, pok.names, pok.apart⟩
      exact lows_same (q none (.ok ht ok) ps ht ok r S' ra hr hr' ha' hk')
  cases e with
  | ref b =>
    have hb : B.S b = some (.lst xs) := by
      unfold lstOf at he
      cases h : B.S b with
      | none => simp [h] at he
      | some o =>
        cases o with
        | lst xs => simp [h] at he; rw [he]
        | _ => simp [h] at he
    have hba : b ≠ a := fun z => by rw [z, ha] at hb; cases hb
    refine enum_ref (ek b _ hba hb) ?_
    dsimp!
    exact start _ fun S' h => h b _ hba hb
  | lst ys =>
    cases he
    dsimp!
    exact start _ fun _ _ => trivial
  | _ => cases he
/-- _law_deck -/
def sp_law_deck : DSp := sp1 fun d S Q _ => ∃ ns : List Int, d = .lst (ns.map D.int) ∧ ∀ a S', S a = none → Deck S' a → (∀ b o, b ≠ a → S b = some o → S' b = some o) → Q (.ref a) S'
theorem sp_len_law_deck : ∀ ds S Q E, sp_law_deck ds S Q E → ds.length = 1 := sp1_len
theorem ok_law_deck (T : Txt K mg C a fd)  : DFn P w K mg base 1 (a 24) (fd 24) ["script"] sp_law_deck := by
  refine dfn_of T.F_law_deck sc_law_deck sp_len_law_deck (fun cdv A outer s B Ed hr hgd => ?_)
  have am : Amb (A.deeper (envOfC "_law_deck" (defScope s_law_deck) s.heap.objs.size (a 24) cdv)) 0 := ⟨hr, hgd⟩
  refine ⟨_, (dss_cons (ds_set 1 sc_law_deck.nd de_int)
    (dss_cons (ds_for (passes_of rfl) rfl (di_seq (de_var 0)) (dg_name 2 sc_law_deck.nd)
    (dss_one (ds_set 1 sc_law_deck.nd (de_mod (de_callTy call_int1 cad_int rfl T.m_int bt_int (da_cons (de_add (de_mul (de_var 1) de_int) (de_var 2)) da_nil)) de_int))))
    (dss_one (ds_ret (de_lstO (da_cons de_int (da_cons de_int (da_cons (de_var 1) (da_cons (de_callTy call_list_of cad_list rfl T.m_list bt_list (da_cons (de_var 0) da_nil)) (da_cons de_int da_nil)))))))))), ?_⟩
  intro ds Q h
  obtain ⟨_, rfl, ns, rfl, q⟩ := sp1_get h
  simp only [dNext, dSeq, dSet, dRet, dRetN, dIf, dDrop, dBreak, dCont, dVar, dC, dCons, dNil, dCB, dCall, dOp, dUn, dTest, dTru, dAnd, dOr, dNot, dAndV, dOrV, dNotV, dIfE, dTup, dLst, dLstO, dFor, dLc, dLcO, dAsg, dgName, dgTup, dgCons, dgNil, dgSub, dMeth, dChain, dIsN, isNP, DL.isNon, truD, dYes, dSl, dNoPart, dPart, dwSeq, dwRng1, dwRng2, dwipe, addP, subP, mulP, fdivP, modP, powP, negP, cmpP, eqP, neP, ixP, lenP, absP, intP, tupleP, listP, listOP, sp1, sp2, sp3, sp4, List.map_cons, List.map_nil, List.replicate_zero, List.replicate_succ, List.length_cons, List.length_nil, List.cons_append, List.nil_append, List.append_nil, List.getElem?_cons_zero, List.getElem?_cons_succ, List.set_cons_zero, List.set_cons_succ, Nat.reduceSub, Nat.reduceAdd, seqOf_tup, seqOf_lst, lstOf_lst, lstOf_put, seqOf_put, put_same, put_put, atI_0, atI_1, atI_2, atI_3, atI_4, ixN_0, ixN_1, ixN_2, ixN_4, Nat.reduceLeDiff, Int.reduceEq, Int.reduceLT, Int.reduceLE, decide_true, decide_false, eq_self, if_true, if_false, Bool.false_eq_true, Bool.not_true, Bool.not_false, reduceIte]
  refine for_inv (fun k env S => S = B.S ∧ ∃ s c, env = [some (.lst (ns.map D.int)), some (.int s), c] ∧ 0 ≤ s ∧ s < 2147483647) ⟨rfl, 7, none, rfl, by decide, by decide⟩ (fun k d env S Z hd h hz => ?_) (fun env S h => ?_)
  · obtain ⟨rfl, s, c, rfl, h0, h1⟩ := h
    obtain ⟨i, rfl⟩ : ∃ i, d = .int i := by
      rw [List.getElem?_map] at hd
      cases e : ns[k]? with
      | none => rw [e] at hd; cases hd
      | some i => rw [e] at hd; cases hd; exact ⟨i, rfl⟩
    simp only [dNext, dSeq, dSet, dRet, dRetN, dIf, dDrop, dBreak, dCont, dVar, dC, dCons, dNil, dCB, dCall, dOp, dUn, dTest, dTru, dAnd, dOr, dNot, dAndV, dOrV, dNotV, dIfE, dTup, dLst, dLstO, dFor, dLc, dLcO, dAsg, dgName, dgTup, dgCons, dgNil, dgSub, dMeth, dChain, dIsN, isNP, DL.isNon, truD, dYes, dSl, dNoPart, dPart, dwSeq, dwRng1, dwRng2, dwipe, addP, subP, mulP, fdivP, modP, powP, negP, cmpP, eqP, neP, ixP, lenP, absP, intP, tupleP, listP, listOP, sp1, sp2, sp3, sp4, List.map_cons, List.map_nil, List.replicate_zero, List.replicate_succ, List.length_cons, List.length_nil, List.cons_append, List.nil_append, List.append_nil, List.getElem?_cons_zero, List.getElem?_cons_succ, List.set_cons_zero, List.set_cons_succ, Nat.reduceSub, Nat.reduceAdd, seqOf_tup, seqOf_lst, lstOf_lst, lstOf_put, seqOf_put, put_same, put_put, atI_0, atI_1, atI_2, atI_3, atI_4, ixN_0, ixN_1, ixN_2, ixN_4, Nat.reduceLeDiff, Int.reduceEq, Int.reduceLT, Int.reduceLE, decide_true, decide_false, eq_self, if_true, if_false, Bool.false_eq_true, Bool.not_true, Bool.not_false, reduceIte]
    refine ⟨trivial, .inl ⟨by omega, by omega⟩, trivial, hz _ _ ⟨rfl, _, _, rfl, ?_, ?_⟩⟩
    · exact Int.emod_nonneg _ (by decide)
    · exact Int.emod_lt_of_pos _ (by decide)
  · obtain ⟨rfl, s, c, rfl, h0, h1⟩ := h
    simp only [dNext, dSeq, dSet, dRet, dRetN, dIf, dDrop, dBreak, dCont, dVar, dC, dCons, dNil, dCB, dCall, dOp, dUn, dTest, dTru, dAnd, dOr, dNot, dAndV, dOrV, dNotV, dIfE, dTup, dLst, dLstO, dFor, dLc, dLcO, dAsg, dgName, dgTup, dgCons, dgNil, dgSub, dMeth, dChain, dIsN, isNP, DL.isNon, truD, dYes, dSl, dNoPart, dPart, dwSeq, dwRng1, dwRng2, dwipe, addP, subP, mulP, fdivP, modP, powP, negP, cmpP, eqP, neP, ixP, lenP, absP, intP, tupleP, listP, listOP, sp1, sp2, sp3, sp4, List.map_cons, List.map_nil, List.replicate_zero, List.replicate_succ, List.length_cons, List.length_nil, List.cons_append, List.nil_append, List.append_nil, List.getElem?_cons_zero, List.getElem?_cons_succ, List.set_cons_zero, List.set_cons_succ, Nat.reduceSub, Nat.reduceAdd, seqOf_tup, seqOf_lst, lstOf_lst, lstOf_put, seqOf_put, put_same, put_put, atI_0, atI_1, atI_2, atI_3, atI_4, ixN_0, ixN_1, ixN_2, ixN_4, Nat.reduceLeDiff, Int.reduceEq, Int.reduceLT, Int.reduceLE, decide_true, decide_false, eq_self, if_true, if_false, Bool.false_eq_true, Bool.not_true, Bool.not_false, reduceIte]
    exact ⟨trivial, szL (by decide), fun p hp => lows_same (q p _ hp ⟨_, put_same, 0, 0, s, 0, ns, rfl, Int.le_refl 0⟩ fun b o n e => by rw [put_ne n]; exact e)⟩
/-- _law_draw -/
def sp_law_draw : DSp := sp2 fun d e S Q _ => ∃ a b, d = .ref a ∧ e = .int b ∧ Deck S a ∧ (0 < b ∧ b < 2 ^ 64) ∧ ∀ v S', 0 ≤ v → v < b → DSt S a S' → Q (.int v) S'
theorem sp_len_law_draw : ∀ ds S Q E, sp_law_draw ds S Q E → ds.length = 2 := sp2_len
theorem emod64 (x : Int) {m : Int} (h0 : 0 < m) (h1 : m < 2 ^ 63) : -(2 ^ 64) < x % m ∧ x % m < 2 ^ 64 := by
  have h2 := Int.emod_nonneg x (by omega : m ≠ 0)
  have h3 := Int.emod_lt_of_pos x h0
  omega
theorem draw_do {a : Addr} {b : Int} {S : Sto} {Q : DQ} {E : DX} (h : Deck S a) (hb : 0 < b ∧ b < 2 ^ 64) (q : ∀ v S', 0 ≤ v → v < b → DSt S a S' → Q (.int v) S') : sp_law_draw [.ref a, .int b] S Q E := ⟨a, b, rfl, rfl, h, hb, q⟩
theorem ok_law_draw (T : Txt K mg C a fd)  : DFn P w K mg base 1 (a 25) (fd 25) ["deck", "bound"] sp_law_draw := by
  refine dfn_of T.F_law_draw sc_law_draw sp_len_law_draw (fun cdv A outer s B Ed hr hgd => ?_)
  have am : Amb (A.deeper (envOfC "_law_draw" (defScope s_law_draw) s.heap.objs.size (a 25) cdv)) 0 := ⟨hr, hgd⟩
  refine ⟨_, (dss_cut (ds_if (dw_t (dw_and (dt_cmp1 (cd_eq am) (de_ix (de_var 0) de_int) de_int) (dw_and1 (dt_cmp1 cd_lt (de_ix (de_var 0) de_int) (de_callB call_len cad_len rfl T.m_len bt_len (da_cons (de_ix (de_var 0) de_int) da_nil))))))
    (dss_cons (ds_asg (de_callB call_abs cad_abs rfl T.m_abs bt_abs (da_cons (de_ix (de_ix (de_var 0) de_int) (de_ix (de_var 0) de_int)) da_nil)) (dg_sub (de_var 0) de_int))
    (dss_one (ds_asg (de_add (de_ix (de_var 0) de_int) de_int) (dg_sub (de_var 0) de_int))))
    (dss_one (ds_if (dt_cmp1 (cd_eq am) (de_ix (de_var 0) de_int) de_int)
    (dss_cons (ds_asg (de_add (de_ix (de_var 0) de_int) de_int) (dg_sub (de_var 0) de_int))
    (dss_cons (ds_set 3 sc_law_draw.nd (de_mod (de_callTy call_int1 cad_int rfl T.m_int bt_int (da_cons (de_add (de_add (de_mul (de_ix (de_var 0) de_int) de_int) (de_mul (de_ix (de_var 0) de_int) de_int)) de_int) da_nil)) de_int))
    (dss_cons (ds_set 3 sc_law_draw.nd (de_mod (de_callTy call_int1 cad_int rfl T.m_int bt_int (da_cons (de_add (de_add (de_mul (de_var 3) (de_var 3)) (de_mul de_int (de_ix (de_var 0) de_int))) de_int) da_nil)) de_int))
    (dss_cons (ds_set 3 sc_law_draw.nd (de_mod (de_callTy call_int1 cad_int rfl T.m_int bt_int (da_cons (de_add (de_add (de_mul (de_var 3) (de_var 3)) (de_mul de_int (de_ix (de_var 0) de_int))) (de_ix (de_var 0) de_int)) da_nil)) de_int))
    (dss_one (ds_asg (de_fdiv (de_var 3) de_int) (dg_sub (de_var 0) de_int)))))))
    dss_nil)))
    (dss_cons (ds_set 2 sc_law_draw.nd (de_mod (de_callTy call_int1 cad_int rfl T.m_int bt_int (da_cons (de_ix (de_var 0) de_int) da_nil)) (de_var 1)))
    (dss_cons (ds_asg (de_fdiv (de_ix (de_var 0) de_int) (de_var 1)) (dg_sub (de_var 0) de_int))
    (dss_one (ds_ret (de_var 2)))))), ?_⟩
  intro ds Q h
  obtain ⟨_, _, rfl, a, b, rfl, rfl, hD, ⟨hb0, hb1⟩, q⟩ := sp2_get h
  refine ⟨fun env S => ∃ dk v n, env = [some (.ref a), some (.int b), v, n] ∧ S = put B.S a (.lst dk) ∧ DeckOk dk, ?_, fun env S h => ?_⟩
  · obtain ⟨_, hS, d0, d1, seed, d4, ns, rfl, h1⟩ := hD
    simp only [dNext, dSeq, dSet, dRet, dRetN, dIf, dDrop, dBreak, dCont, dVar, dC, dCons, dNil, dCB, dCall, dOp, dUn, dTest, dTru, dAnd, dOr, dNot, dAndV, dOrV, dNotV, dIfE, dTup, dLst, dLstO, dFor, dLc, dLcO, dAsg, dgName, dgTup, dgCons, dgNil, dgSub, dMeth, dChain, dIsN, isNP, DL.isNon, truD, dYes, dSl, dNoPart, dPart, dwSeq, dwRng1, dwRng2, dwipe, addP, subP, mulP, fdivP, modP, powP, negP, cmpP, eqP, neP, ixP, lenP, absP, intP, tupleP, listP, listOP, sp1, sp2, sp3, sp4, List.map_cons, List.map_nil, List.replicate_zero, List.replicate_succ, List.length_cons, List.length_nil, List.cons_append, List.nil_append, List.append_nil, List.getElem?_cons_zero, List.getElem?_cons_succ, List.set_cons_zero, List.set_cons_succ, Nat.reduceSub, Nat.reduceAdd, seqOf_tup, seqOf_lst, lstOf_lst, lstOf_put, seqOf_put, put_same, put_put, atI_0, atI_1, atI_2, atI_3, atI_4, ixN_0, ixN_1, ixN_2, ixN_4, Nat.reduceLeDiff, Int.reduceEq, Int.reduceLT, Int.reduceLE, decide_true, decide_false, eq_self, if_true, if_false, Bool.false_eq_true, Bool.not_true, Bool.not_false, reduceIte, seqOf_ref hS, hS]
    by_cases z : d0 = 0
    · simp only [decide_eq_true z, List.length_map, dNext, dSeq, dSet, dRet, dRetN, dIf, dDrop, dBreak, dCont, dVar, dC, dCons, dNil, dCB, dCall, dOp, dUn, dTest, dTru, dAnd, dOr, dNot, dAndV, dOrV, dNotV, dIfE, dTup, dLst, dLstO, dFor, dLc, dLcO, dAsg, dgName, dgTup, dgCons, dgNil, dgSub, dMeth, dChain, dIsN, isNP, DL.isNon, truD, dYes, dSl, dNoPart, dPart, dwSeq, dwRng1, dwRng2, dwipe, addP, subP, mulP, fdivP, modP, powP, negP, cmpP, eqP, neP, ixP, lenP, absP, intP, tupleP, listP, listOP, sp1, sp2, sp3, sp4, List.map_cons, List.map_nil, List.replicate_zero, List.replicate_succ, List.length_cons, List.length_nil, List.cons_append, List.nil_append, List.append_nil, List.getElem?_cons_zero, List.getElem?_cons_succ, List.set_cons_zero, List.set_cons_succ, Nat.reduceSub, Nat.reduceAdd, seqOf_tup, seqOf_lst, lstOf_lst, lstOf_put, seqOf_put, put_same, put_put, atI_0, atI_1, atI_2, atI_3, atI_4, ixN_0, ixN_1, ixN_2, ixN_4, Nat.reduceLeDiff, Int.reduceEq, Int.reduceLT, Int.reduceLE, decide_true, decide_false, eq_self, if_true, if_false, Bool.false_eq_true, Bool.not_true, Bool.not_false, reduceIte]
      by_cases l : d1 < (ns.length : Int)
      · obtain ⟨v, hv, e⟩ := atI_in (xs := ns.map D.int) h1 (by rw [List.length_map]; exact l)
        obtain ⟨i, _, rfl⟩ := List.mem_map.mp hv
        simp only [decide_eq_true l, e, dNext, dSeq, dSet, dRet, dRetN, dIf, dDrop, dBreak, dCont, dVar, dC, dCons, dNil, dCB, dCall, dOp, dUn, dTest, dTru, dAnd, dOr, dNot, dAndV, dOrV, dNotV, dIfE, dTup, dLst, dLstO, dFor, dLc, dLcO, dAsg, dgName, dgTup, dgCons, dgNil, dgSub, dMeth, dChain, dIsN, isNP, DL.isNon, truD, dYes, dSl, dNoPart, dPart, dwSeq, dwRng1, dwRng2, dwipe, addP, subP, mulP, fdivP, modP, powP, negP, cmpP, eqP, neP, ixP, lenP, absP, intP, tupleP, listP, listOP, sp1, sp2, sp3, sp4, List.map_cons, List.map_nil, List.replicate_zero, List.replicate_succ, List.length_cons, List.length_nil, List.cons_append, List.nil_append, List.append_nil, List.getElem?_cons_zero, List.getElem?_cons_succ, List.set_cons_zero, List.set_cons_succ, Nat.reduceSub, Nat.reduceAdd, seqOf_tup, seqOf_lst, lstOf_lst, lstOf_put, seqOf_put, put_same, put_put, atI_0, atI_1, atI_2, atI_3, atI_4, ixN_0, ixN_1, ixN_2, ixN_4, Nat.reduceLeDiff, Int.reduceEq, Int.reduceLT, Int.reduceLE, decide_true, decide_false, eq_self, if_true, if_false, Bool.false_eq_true, Bool.not_true, Bool.not_false, reduceIte]
        exact ⟨_, none, none, rfl, rfl, _, _, _, _, ns, rfl, by omega⟩
      · simp only [decide_eq_false l, dNext, dSeq, dSet, dRet, dRetN, dIf, dDrop, dBreak, dCont, dVar, dC, dCons, dNil, dCB, dCall, dOp, dUn, dTest, dTru, dAnd, dOr, dNot, dAndV, dOrV, dNotV, dIfE, dTup, dLst, dLstO, dFor, dLc, dLcO, dAsg, dgName, dgTup, dgCons, dgNil, dgSub, dMeth, dChain, dIsN, isNP, DL.isNon, truD, dYes, dSl, dNoPart, dPart, dwSeq, dwRng1, dwRng2, dwipe, addP, subP, mulP, fdivP, modP, powP, negP, cmpP, eqP, neP, ixP, lenP, absP, intP, tupleP, listP, listOP, sp1, sp2, sp3, sp4, List.map_cons, List.map_nil, List.replicate_zero, List.replicate_succ, List.length_cons, List.length_nil, List.cons_append, List.nil_append, List.append_nil, List.getElem?_cons_zero, List.getElem?_cons_succ, List.set_cons_zero, List.set_cons_succ, Nat.reduceSub, Nat.reduceAdd, seqOf_tup, seqOf_lst, lstOf_lst, lstOf_put, seqOf_put, put_same, put_put, atI_0, atI_1, atI_2, atI_3, atI_4, ixN_0, ixN_1, ixN_2, ixN_4, Nat.reduceLeDiff, Int.reduceEq, Int.reduceLT, Int.reduceLE, decide_true, decide_false, eq_self, if_true, if_false, Bool.false_eq_true, Bool.not_true, Bool.not_false, reduceIte]
        refine ⟨.inr (by decide), .inr (by decide), by decide, .inl (emod64 _ (by decide) (by decide)), .inl (by decide), by decide, .inl (emod64 _ (by decide) (by decide)), .inl (by decide), by decide, ⟨by decide, by decide⟩, ?_⟩
        exact ⟨_, none, _, rfl, rfl, _, _, _, _, ns, rfl, h1⟩
    · simp only [decide_eq_false z, dNext, dSeq, dSet, dRet, dRetN, dIf, dDrop, dBreak, dCont, dVar, dC, dCons, dNil, dCB, dCall, dOp, dUn, dTest, dTru, dAnd, dOr, dNot, dAndV, dOrV, dNotV, dIfE, dTup, dLst, dLstO, dFor, dLc, dLcO, dAsg, dgName, dgTup, dgCons, dgNil, dgSub, dMeth, dChain, dIsN, isNP, DL.isNon, truD, dYes, dSl, dNoPart, dPart, dwSeq, dwRng1, dwRng2, dwipe, addP, subP, mulP, fdivP, modP, powP, negP, cmpP, eqP, neP, ixP, lenP, absP, intP, tupleP, listP, listOP, sp1, sp2, sp3, sp4, List.map_cons, List.map_nil, List.replicate_zero, List.replicate_succ, List.length_cons, List.length_nil, List.cons_append, List.nil_append, List.append_nil, List.getElem?_cons_zero, List.getElem?_cons_succ, List.set_cons_zero, List.set_cons_succ, Nat.reduceSub, Nat.reduceAdd, seqOf_tup, seqOf_lst, lstOf_lst, lstOf_put, seqOf_put, put_same, put_put, atI_0, atI_1, atI_2, atI_3, atI_4, ixN_0, ixN_1, ixN_2, ixN_4, Nat.reduceLeDiff, Int.reduceEq, Int.reduceLT, Int.reduceLE, decide_true, decide_false, eq_self, if_true, if_false, Bool.false_eq_true, Bool.not_true, Bool.not_false, reduceIte]
      exact ⟨_, none, none, rfl, (put_self hS).symm, _, _, _, _, ns, rfl, h1⟩
  · obtain ⟨dk, v, n, rfl, rfl, d0, d1, seed, d4, ns, rfl, h1⟩ := h
    simp only [dNext, dSeq, dSet, dRet, dRetN, dIf, dDrop, dBreak, dCont, dVar, dC, dCons, dNil, dCB, dCall, dOp, dUn, dTest, dTru, dAnd, dOr, dNot, dAndV, dOrV, dNotV, dIfE, dTup, dLst, dLstO, dFor, dLc, dLcO, dAsg, dgName, dgTup, dgCons, dgNil, dgSub, dMeth, dChain, dIsN, isNP, DL.isNon, truD, dYes, dSl, dNoPart, dPart, dwSeq, dwRng1, dwRng2, dwipe, addP, subP, mulP, fdivP, modP, powP, negP, cmpP, eqP, neP, ixP, lenP, absP, intP, tupleP, listP, listOP, sp1, sp2, sp3, sp4, List.map_cons, List.map_nil, List.replicate_zero, List.replicate_succ, List.length_cons, List.length_nil, List.cons_append, List.nil_append, List.append_nil, List.getElem?_cons_zero, List.getElem?_cons_succ, List.set_cons_zero, List.set_cons_succ, Nat.reduceSub, Nat.reduceAdd, seqOf_tup, seqOf_lst, lstOf_lst, lstOf_put, seqOf_put, put_same, put_put, atI_0, atI_1, atI_2, atI_3, atI_4, ixN_0, ixN_1, ixN_2, ixN_4, Nat.reduceLeDiff, Int.reduceEq, Int.reduceLT, Int.reduceLE, decide_true, decide_false, eq_self, if_true, if_false, Bool.false_eq_true, Bool.not_true, Bool.not_false, reduceIte]
    refine ⟨hb0, ⟨hb0, hb1⟩, lows_same (q _ _ (Int.emod_nonneg _ (by omega)) (Int.emod_lt_of_pos _ hb0) ((DSt.refl hD).turn ⟨_, _, _, _, ns, rfl, h1⟩))⟩
/-- _law_beside: the cells beside, in the law's own order -/
def besideL (c : C3) : List C3 := [(c.1 + -1, c.2.1, c.2.2), (c.1 + 1, c.2.1, c.2.2), (c.1, c.2.1 + -1, c.2.2), (c.1, c.2.1 + 1, c.2.2), (c.1, c.2.1, c.2.2 + -1), (c.1, c.2.1, c.2.2 + 1)]
def sp_law_beside : DSp := sp1 fun d S Q _ => ∃ c : C3, d = cD c ∧ ∀ S', Sub S S' → Q (.lst ((besideL c).map cD)) S'
theorem sp_len_law_beside : ∀ ds S Q E, sp_law_beside ds S Q E → ds.length = 1 := sp1_len
theorem ok_law_beside (T : Txt K mg C a fd)  : DFn P w K mg base 1 (a 26) (fd 26) ["cell"] sp_law_beside := by
  refine dfn_of T.F_law_beside sc_law_beside sp_len_law_beside (fun cdv A outer s B Ed hr hgd => ?_)
  have am : Amb (A.deeper (envOfC "_law_beside" (defScope s_law_beside) s.heap.objs.size (a 26) cdv)) 0 := ⟨hr, hgd⟩
  refine ⟨_, (dss_cons (ds_set 1 sc_law_beside.nd (de_lstO da_nil))
    (dss_cons (ds_for (passes_of rfl) rfl (di_rng1 rfl T.m_range (da_cons de_int da_nil)) (dg_name 2 sc_law_beside.nd)
    (dss_one (ds_for (passes_of rfl) rfl (di_seq (de_lst (da_cons (de_neg de_int) (da_cons de_int da_nil)))) (dg_name 3 sc_law_beside.nd)
    (dss_cons (ds_set 4 sc_law_beside.nd (de_callTy call_list_of cad_listO rfl T.m_list bt_list (da_cons (de_var 0) da_nil)))
    (dss_cons (ds_asg (de_add (de_ix (de_var 4) (de_var 2)) (de_var 3)) (dg_sub (de_var 4) (de_var 2)))
    (dss_one (ds_expr (de_append (de_var 1) (da_cons (de_callTy call_tuple_of cad_tuple rfl T.m_tuple bt_tuple (da_cons (de_var 4) da_nil)) da_nil)))))))))
    (dss_one (ds_ret (de_var 1))))), ?_⟩
  intro ds Q h
  obtain ⟨d, rfl, c, rfl, q⟩ := sp1_get h
  simp!
  refine ⟨szL (by decide), fun p hp => ⟨by decide, trivial, ?_⟩⟩
  refine for_inv (fun k env S => Sub B.S S ∧ S p = some (.lst (((besideL c).take (2 * k)).map cD)) ∧ ∃ x2 x3 x4, env = [some (cD c), some (.ref p), x2, x3, x4]) ⟨sub_put Sub.refl hp, put_same, _, _, _, rfl⟩ (fun k d env S Z hd ⟨sb, hS, x2, x3, x4, e⟩ hz => ⟨trivial, ?_⟩) (fun env S ⟨sb, hS, x2, x3, x4, e⟩ => ⟨trivial, ?_⟩)
  · subst e
    obtain ⟨rfl, hk⟩ := upTo_get hd
    have hk' : k < 3 := hk
    simp!
    refine ⟨szL (by decide), ?_⟩
    refine for_inv (fun j env S => Sub B.S S ∧ S p = some (.lst (((besideL c).take (2 * k + j)).map cD)) ∧ ∃ x3 x4, env = [some (cD c), some (.ref p), some (.int (0 + (k : Int))), x3, x4]) ⟨sb, hS, _, _, rfl⟩ (fun j d env S Z hd ⟨sb, hS, x3, x4, e⟩ hz => ⟨trivial, ?_⟩) (fun env S ⟨sb, hS, x3, x4, e⟩ => ⟨trivial, hz _ _ ⟨sb, hS, _, _, _, e⟩⟩)
    subst e
    obtain ⟨rfl, rfl⟩ | ⟨rfl, rfl⟩ : (j = 0 ∧ d = .int (-1)) ∨ (j = 1 ∧ d = .int 1) := by
      match j, hd with
      | 0, hd => cases hd; exact .inl ⟨rfl, rfl⟩
      | 1, hd => cases hd; exact .inr ⟨rfl, rfl⟩
    all_goals
      simp!
      unfold cD
      simp!
      refine fun p2 hp2 => ?_
      have n2 : p ≠ p2 := fun e => by rw [← e, hS] at hp2; cases hp2
      have hB2 : B.S p2 = none := sb.none hp2
      have hS2 : ∀ o, put S p2 o p = some _ := fun o => by rw [put_ne n2]; exact hS
      obtain rfl | rfl | rfl : k = 0 ∨ k = 1 ∨ k = 2 := by omega
    all_goals
      simp only [show (0 : Int) + ((0 : Nat) : Int) = 0 from rfl, show (0 : Int) + ((1 : Nat) : Int) = 1 from rfl, show (0 : Int) + ((2 : Nat) : Int) = 2 from rfl]
      first
        | refine zIx_of atI_0 ?_
        | refine zIx_of atI_1 ?_
        | refine zIx_of atI_2 ?_
      simp!
      refine ⟨by unfold tyD; simp only [hS2], zo_append (hS2 _) (szL (by show _ + 1 ≤ _; rw [List.length_map, List.length_take]; omega)) ?_⟩
      refine hz _ _ ⟨sub_put (sub_put sb hB2) hp, by rw [put_same]; rfl, _, _, rfl⟩
  · subst e
    simp!
    exact ⟨.lst ((besideL c).map cD), cut S p, sub_cut, .lst hS cut_same, q _ fun b o e => by
      have : b ≠ p := fun z => by rw [z, hp] at e; cases e
      rw [cut_ne this]; exact sb b o e⟩
namespace Nm
/-- names that differ in one letter -/
def lets (cs : List Nat) : List D := cs.map sgD
theorem strs_lets (cs : List Nat) : strsOf (lets cs) = some (cs.map fun c => (⟨#[c]⟩ : Str)) := by
  have e : lets cs = (cs.map fun c => (⟨#[c]⟩ : Str)).map D.str := by unfold lets; rw [List.map_map]; rfl
  rw [e, strsOf_map]
theorem sum_lets (cs : List Nat) : ((cs.map fun c => (⟨#[c]⟩ : Str)).map (·.length)).sum = cs.length := by
  induction cs with
  | nil => rfl
  | cons c cs ih => rw [List.map_cons, List.map_cons, List.sum_cons, ih, List.length_cons]; show 1 + _ = _; omega
theorem join_do {cs : List Nat} {y : D} {S : Sto} {Q : DQ} (h : seqOf S y = some (lets cs)) (hl : cs.length ≤ 1000) (q : Q (.str ⟨cs.toArray⟩) S) : joinP (.str ("" : Str)) y S Q := by
  unfold joinP
  simp only [h, Option.bind, strs_lets]
  refine ⟨?_, ?_⟩
  · rw [sum_lets, List.length_map]
    show cs.length + cs.length * 0 ≤ _; omega
  · have e : Txt.join ("" : Str) (cs.map fun c => (⟨#[c]⟩ : Str)) = ⟨cs.toArray⟩ := join_signs cs
    rw [e]; exact q
theorem isName_word {cs : List Nat} : isName (.str ⟨cs.toArray⟩) = ((decide (1 ≤ (cs.length : Int)) && decide ((cs.length : Int) ≤ 8)) && cs.all inAZ) := by
  simp only [isName, Str.length, List.size_toArray]
theorem isName_iff {cs : List Nat} : isName (.str ⟨cs.toArray⟩) = true ↔ (1 ≤ cs.length ∧ cs.length ≤ 8 ∧ ∀ c ∈ cs, inAZ c = true) := by
  rw [isName_word]
  simp only [Bool.and_eq_true, decide_eq_true_eq, List.all_eq_true]
  constructor
  · rintro ⟨⟨h1, h2⟩, h3⟩
    exact ⟨by omega, by omega, h3⟩
  · rintro ⟨h1, h2, h3⟩
    exact ⟨⟨by omega, by omega⟩, h3⟩
abbrev azL : List Nat := ("abcdefghijklmnopqrstuvwxyz" : Str).cps.toList
theorem azL_eq : azL = List.range' 97 26 := by decide +kernel
theorem az_at {i : Int} (h0 : 0 ≤ i) (h1 : i < 26) : atI azL i = some (97 + i.toNat) := by
  rw [azL_eq, atI_nat' h0, List.getElem?_range' (by omega)]
  simp
theorem inAZ_iff {c : Nat} : inAZ c = true ↔ 97 ≤ c ∧ c < 123 := by
  unfold inAZ
  rw [decide_eq_true_eq]
  have e : ("abcdefghijklmnopqrstuvwxyz" : Str).cps.toList = List.range' 97 26 := azL_eq
  rw [e, List.mem_range'_1]
theorem cutS_eq (z : Str) (lo hi : Option Int) : cutS z lo hi = ⟨(DL.cutD z.cps.toList lo hi).toArray⟩ := by
  unfold cutS DL.cutD
  rfl
theorem str_app (xs ys : List Nat) : ((⟨xs.toArray⟩ : Str) ++ (⟨ys.toArray⟩ : Str)) = (⟨(xs ++ ys).toArray⟩ : Str) := by
  show (⟨xs.toArray ++ ys.toArray⟩ : Str) = _
  simp
end Nm
def sp_law_names : DSp := sp2 fun d e S Q _ => ∃ (a : Addr) (n : Nat), d = .ref a ∧ e = .int n ∧ n ≤ 26 ∧ Deck S a ∧ ∀ (ss : List Str) S', ss.length = n → (∀ s ∈ ss, isName (.str s) = true) → ss.Nodup → DSt S a S' → Q (.lst (ss.map D.str)) S'
theorem sp_len_law_names : ∀ ds S Q E, sp_law_names ds S Q E → ds.length = 2 := sp2_len
def nmW (cs : List Nat) (p f st k : Nat) : Str := ⟨(cs.take p ++ [97 + (f + st * k) % 26] ++ cs.drop p).toArray⟩
theorem nmW_name {cs : List Nat} {p f st k : Nat} (hl : cs.length ≤ 7) (hcs : ∀ c ∈ cs, inAZ c = true) : isName (.str (nmW cs p f st k)) = true := by
  refine Nm.isName_iff.mpr ⟨?_, ?_, fun c hc => ?_⟩
  · simp only [List.length_append, List.length_singleton]; omega
  · simp only [List.length_append, List.length_singleton, List.length_take, List.length_drop]; omega
  · rcases List.mem_append.mp hc with hc | hc
    · rcases List.mem_append.mp hc with hc | hc
      · exact hcs c (List.mem_of_mem_take hc)
      · rw [List.mem_singleton.mp hc]; exact Nm.inAZ_iff.mpr (by omega)
    · exact hcs c (List.mem_of_mem_drop hc)
theorem nmW_inj {cs : List Nat} {p f st k j : Nat} (hst : st = 1 ∨ st = 5 ∨ st = 7 ∨ st = 25) (hk : k < 26) (hj : j < 26) (e : nmW cs p f st k = nmW cs p f st j) : k = j := by
  have e : cs.take p ++ [97 + (f + st * k) % 26] ++ cs.drop p = cs.take p ++ [97 + (f + st * j) % 26] ++ cs.drop p := by simpa [nmW] using e
  have e := List.append_cancel_left (List.append_cancel_right e)
  have e : 97 + (f + st * k) % 26 = 97 + (f + st * j) % 26 := by simpa using e
  rcases hst with rfl | rfl | rfl | rfl <;> omega
open Nm in
theorem ok_law_names (T : Txt K mg C a fd) (G_law_draw : DFn P w K mg base 1 (a 25) (fd 25) ["deck", "bound"] sp_law_draw) : DFn P w K mg base 2 (a 27) (fd 27) ["deck", "count"] sp_law_names := by
  refine dfn_of T.F_law_names sc_law_names sp_len_law_names (fun cdv A outer s B Ed hr hgd => ?_)
  have am : Amb (A.deeper (envOfC "_law_names" (defScope s_law_names) s.heap.objs.size (a 27) cdv)) 1 := ⟨hr, hgd⟩
  refine ⟨_, (dss_cons (ds_set 2 sc_law_names.nd de_str)
    (dss_cons (ds_set 3 sc_law_names.nd (de_ix (de_lst (da_cons de_int (da_cons de_int (da_cons de_int (da_cons de_int (da_cons de_int da_nil)))))) (de_call G_law_draw (am.room.mono (by decide)) am.guards rfl T.g_law_draw T.F_law_draw.kp T.b_law_draw .nil closed_nil dtk_body (da_cons (de_var 0) (da_cons de_int da_nil)))))
    (dss_cons (ds_set 4 sc_law_names.nd (de_join de_str (de_lc rfl sc_law_names.nd (di_rng1 rfl T.m_range (da_cons (de_var 3) da_nil)) (blkOk_by (own := [("k", 8)]) (N := N_law_names) (sc := (defScope s_law_names)) (by decide +kernel))
      (fun _ _ _ _ _ _ => (dgv_name 8 sc_law_names.nd)) (fun _ _ _ _ _ _ => dts_nil) (fun _ _ _ _ _ _ => (de_ix (de_var 2) (de_call G_law_draw (am.room.mono (by decide)) am.guards rfl T.g_law_draw T.F_law_draw.kp T.b_law_draw .nil closed_nil dtk0 (da_cons (de_var 0) (da_cons de_int da_nil))))))))
    (dss_cons (ds_set 5 sc_law_names.nd (de_call G_law_draw (am.room.mono (by decide)) am.guards rfl T.g_law_draw T.F_law_draw.kp T.b_law_draw .nil closed_nil dtk_body (da_cons (de_var 0) (da_cons (de_add (de_var 3) de_int) da_nil))))
    (dss_cons (ds_set 6 sc_law_names.nd (de_call G_law_draw (am.room.mono (by decide)) am.guards rfl T.g_law_draw T.F_law_draw.kp T.b_law_draw .nil closed_nil dtk_body (da_cons (de_var 0) (da_cons de_int da_nil))))
    (dss_cons (ds_set 7 sc_law_names.nd (de_ix (de_lst (da_cons de_int (da_cons de_int (da_cons de_int (da_cons de_int da_nil))))) (de_call G_law_draw (am.room.mono (by decide)) am.guards rfl T.g_law_draw T.F_law_draw.kp T.b_law_draw .nil closed_nil dtk_body (da_cons (de_var 0) (da_cons de_int da_nil)))))
    (dss_one (ds_ret (de_lc rfl sc_law_names.nd (di_rng1 rfl T.m_range (da_cons (de_var 1) da_nil)) (blkOk_by (own := [("k", 8)]) (N := N_law_names) (sc := (defScope s_law_names)) (by decide +kernel))
      (fun _ _ _ _ _ _ => (dgv_name 8 sc_law_names.nd)) (fun _ _ _ _ _ _ => dts_nil) (fun _ _ _ _ _ _ => (de_add (de_add (de_slice (de_var 4) do_none (do_some (de_var 5))) (de_ix (de_var 2) (de_mod (de_callTy call_int1 cad_int rfl T.m_int bt_int (da_cons (de_add (de_var 6) (de_mul (de_var 7) (de_var 8))) da_nil)) de_int))) (de_slice (de_var 4) (do_some (de_var 5)) do_none)))))))))))), ?_⟩
  intro ds Q h
  obtain ⟨_, _, rfl, a, n, rfl, rfl, hn, hD, q⟩ := sp2_get h
  simp!
  refine ⟨szL (by decide), ?_⟩
  refine draw_do (b := 5) hD (by decide) fun v S1 v0 v1 D1 => ?_
  simp!
  obtain ⟨sz, hsz, esz⟩ : ∃ sz : Nat, sz ≤ 7 ∧ atI [D.int 0, .int 0, .int 1, .int 2, .int 7] v = some (.int sz) := by
    obtain ⟨x, hx, e⟩ := atI_in (xs := [D.int 0, .int 0, .int 1, .int 2, .int 7]) v0 (show v < 5 from v1)
    have : ∀ x ∈ [D.int 0, .int 0, .int 1, .int 2, .int 7], ∃ sz : Nat, sz ≤ 7 ∧ x = .int sz := by
      intro x hx
      simp only [List.mem_cons, List.mem_nil_iff, or_false] at hx
      rcases hx with rfl | rfl | rfl | rfl | rfl
      · exact ⟨0, by decide, rfl⟩
      · exact ⟨0, by decide, rfl⟩
      · exact ⟨1, by decide, rfl⟩
      · exact ⟨2, by decide, rfl⟩
      · exact ⟨7, by decide, rfl⟩
    obtain ⟨sz, h1, rfl⟩ := this x hx
    exact ⟨sz, h1, e⟩
  refine zIx_of esz ?_
  simp!
  refine ⟨by omega, by omega, ?_⟩
  refine lc_drawn (a := a) (S0 := B.S) (fun d => ∃ c, d = sgD c ∧ inAZ c = true) D1 (fun d _ S3 Q3 D3 q3 => ?_) (fun acc S3 hl3 hr D3 => ?_)
  · simp!
    refine draw_do D3.deck (by decide) fun v S4 v0 v1 D4 => ?_
    simp!
    refine ⟨szL (by decide +kernel), zIxS_of (az_at v0 v1) ?_⟩
    exact q3 _ _ ⟨_, rfl, inAZ_iff.mpr (by omega)⟩ (D3.trans D4)
  rw [DL.upTo_len] at hl3
  obtain ⟨cs, rfl, hcs⟩ : ∃ cs, acc = lets cs ∧ ∀ c ∈ cs, inAZ c = true := by
    clear hl3
    induction acc with
    | nil => exact ⟨[], rfl, fun c h => (List.not_mem_nil h).elim⟩
    | cons x acc ih =>
      obtain ⟨c, rfl, hc⟩ := hr x List.mem_cons_self
      obtain ⟨cs, rfl, hcs⟩ := ih fun d hd => hr d (List.mem_cons_of_mem _ hd)
      refine ⟨c :: cs, rfl, fun b hb => ?_⟩
      rcases List.mem_cons.mp hb with rfl | hb
      · exact hc
      · exact hcs b hb
  have hl4 : cs.length = sz := by unfold lets at hl3; rw [List.length_map] at hl3; omega
  simp!
  refine join_do rfl (by omega) ?_
  simp!
  refine draw_do D3.deck ⟨by omega, by omega⟩ fun p S4 p0 p1 D4' => ?_
  have D4 := D3.trans D4'
  simp!
  refine draw_do D4.deck (by decide) fun f S5 f0 f1 D5' => ?_
  have D5 := D4.trans D5'
  simp!
  refine ⟨szL (by decide), ?_⟩
  refine draw_do (b := 4) D5.deck (by decide) fun w S6 w0 w1 D6' => ?_
  have D6 := D5.trans D6'
  simp!
  obtain ⟨st, hst, est⟩ : ∃ st : Nat, (st = 1 ∨ st = 5 ∨ st = 7 ∨ st = 25) ∧ atI [D.int 1, .int 5, .int 7, .int 25] w = some (.int st) := by
    obtain ⟨x, hx, e⟩ := atI_in (xs := [D.int 1, .int 5, .int 7, .int 25]) w0 (show w < 4 from w1)
    have : ∀ x ∈ [D.int 1, .int 5, .int 7, .int 25], ∃ st : Nat, (st = 1 ∨ st = 5 ∨ st = 7 ∨ st = 25) ∧ x = .int st := by
      intro x hx
      simp only [List.mem_cons, List.mem_nil_iff, or_false] at hx
      rcases hx with rfl | rfl | rfl | rfl
      · exact ⟨1, by decide, rfl⟩
      · exact ⟨5, by decide, rfl⟩
      · exact ⟨7, by decide, rfl⟩
      · exact ⟨25, by decide, rfl⟩
    obtain ⟨st, h1, rfl⟩ := this x hx
    exact ⟨st, h1, e⟩
  refine zIx_of est ?_
  simp!
  obtain ⟨f, rfl⟩ := Int.eq_ofNat_of_zero_le f0
  refine ⟨by omega, by omega, ?_⟩
  have en : ((n : Int)).toNat = n := by omega
  rw [en]
  have hlen8 : ∀ xs : List Nat, (⟨xs.toArray⟩ : Str).length = xs.length := fun xs => by simp [Str.length]
  refine lc_upTo (fun k => .str (nmW cs p.toNat f st k)) trivial (fun k hk Q q => ?_) ?_
  · simp!
    have e0 : ((f : Int) + (st : Int) * (k : Int)) % 26 = (((f + st * k) % 26 : Nat) : Int) := by
      rcases hst with rfl | rfl | rfl | rfl <;> omega
    refine ⟨by rw [hlen8]; exact szL (by omega), .inl (by omega), trivial, szL (by decide +kernel), ?_⟩
    rw [e0]
    refine zIxS_of (az_at (Int.natCast_nonneg _) (by omega)) ?_
    have ecand : (cutS ⟨cs.toArray⟩ none (some p) ++ (⟨#[97 + (((f + st * k) % 26 : Nat) : Int).toNat]⟩ : Str)) ++ cutS ⟨cs.toArray⟩ (some p) none = nmW cs p.toNat f st k := by
      rw [cutS_eq, cutS_eq]
      have e1 : (⟨#[97 + (((f + st * k) % 26 : Nat) : Int).toNat]⟩ : Str) = ⟨([97 + (f + st * k) % 26] : List Nat).toArray⟩ := by rw [Int.toNat_natCast]
      rw [e1, cutD_to p0, cutD_from (by omega), str_app, str_app]
      rfl
    have l1 : (cutS ⟨cs.toArray⟩ none (some p)).length ≤ 8 := by
      have := cutS_length ⟨cs.toArray⟩ none (some p); have e := hlen8 cs; omega
    have l2 : (cutS ⟨cs.toArray⟩ (some p) none).length ≤ 8 := by
      have := cutS_length ⟨cs.toArray⟩ (some p) none; have e := hlen8 cs; omega
    have l3 : (⟨#[97 + (((f + st * k) % 26 : Nat) : Int).toNat]⟩ : Str).length = 1 := rfl
    unfold sgD
    simp!
    refine ⟨szL (by omega), by rw [hlen8]; exact szL (by omega), by rw [Str.length_append]; exact szL (by omega), ?_⟩
    rw [ecand]
    exact q
  simp!
  have em : (List.range n).map (fun k => D.str (nmW cs p.toNat f st k)) = ((List.range n).map fun k => nmW cs p.toNat f st k).map D.str := by rw [List.map_map]; rfl
  rw [em]
  refine lows_same (q _ _ (by simp) (fun s hs => ?_) ?_ D6)
  · obtain ⟨k, _, rfl⟩ := List.mem_map.mp hs
    exact nmW_name (by omega) hcs
  · refine List.pairwise_map.mpr ((List.pairwise_lt_range).imp_of_mem fun {i j} hi hj hij e => ?_)
    have := nmW_inj hst (by have := List.mem_range.mp hi; omega) (by have := List.mem_range.mp hj; omega) e
    omega
/-- within the window -/
def inWin (l : C3) (w : Int) (c : C3) : Prop := (l.1 ≤ c.1 ∧ c.1 < l.1 + w) ∧ (l.2.1 ≤ c.2.1 ∧ c.2.1 < l.2.1 + w) ∧ l.2.2 ≤ c.2.2 ∧ c.2.2 < l.2.2 + w
/-- cells that are grown beside taken ones -/
structure Lmp (T : List C3) (l : C3) (w : Int) (cs : List C3) : Prop where
  nd : cs.Nodup
  few : cs.length ≤ 40
  box : ∀ c ∈ cs, ∀ k, 0 ≤ k → k < 3 → 0 ≤ cAt c k ∧ cAt c k ≤ 15
  conn : Conn cs
  apart : ∀ c ∈ cs, c ∉ T
  win : ∀ c ∈ cs, inWin l w c
theorem lmp_dist {b x : C3} (h : x ∈ besideL b) : dist b x = 1 := by
  obtain ⟨u, v, w⟩ := b
  unfold besideL at h
  simp only [List.mem_cons, List.not_mem_nil, or_false] at h
  rcases h with rfl | rfl | rfl | rfl | rfl | rfl <;> simp [dist] <;> omega
theorem lmp_at {c : C3} (h : ∀ k, 0 ≤ k → k < 3 → 0 ≤ cAt c k ∧ cAt c k ≤ 15) : inBox c := ⟨h 0 (by decide) (by decide), h 1 (by decide) (by decide), h 2 (by decide) (by decide)⟩
theorem Lmp.solid {T : List C3} {l : C3} {w : Int} {cs : List C3} (g : Lmp T l w cs) (ne : cs ≠ []) : SolidC (csort cs) := by
  have p := csort_perm cs
  refine ⟨fun e => ne ?_, by rw [p.length_eq]; exact g.few, fun c hc => lmp_at (g.box c (p.mem_iff.mp hc)), csort_asc g.nd, conn_perm p.symm g.conn⟩
  rw [e] at p
  exact p.symm.eq_nil
def sp_law_lump : DSp := fun ds S Q _ => ∃ (a : Addr) (T : List C3) (l : C3) (w : Int), ds = [.ref a, .lst (T.map cD), .lst [.int l.1, .int l.2.1, .int l.2.2], .int w] ∧ Deck S a ∧ (∀ c ∈ T, inBox c) ∧ 0 < w ∧ (∀ k, 0 ≤ k → k < 3 → 0 ≤ cAt l k ∧ cAt l k + w ≤ 16) ∧
  ∀ cs S', Lmp T l w cs → (T = [] → cs ≠ []) → DSt S a S' → Q (.lst ((csort cs).map cD)) S'
theorem sp_len_law_lump : ∀ ds S Q E, sp_law_lump ds S Q E → ds.length = 4 := fun ds S Q E ⟨a, T, l, w, h, _⟩ => by rw [h]; rfl
theorem lmp_bd2 {c : C3} (h : inBox c) (k : Int) : -(2 ^ 60) < cAt c k ∧ cAt c k < 2 ^ 60 := by
  obtain ⟨⟨h0, h1⟩, ⟨h2, h3⟩, h4, h5⟩ := h
  exact cAt_all (P := fun z => -(2 ^ 60) < z ∧ z < 2 ^ 60) (x := c.1) (y := c.2.1) (z := c.2.2) (by omega) (by omega) (by omega) k
theorem lmp_ix {l : C3} {k : Int} {S : Sto} {Q : DQ} (h0 : 0 ≤ k) (h3 : k < 3) (q : Q (.int (cAt l k)) S) : ixP (.lst [.int l.1, .int l.2.1, .int l.2.2]) (.int k) S Q := by
  rw [zo_ixL, atI_three h0 h3]
  exact q
theorem ok_law_lump (T : Txt K mg C a fd) (G_law_beside : DFn P w K mg base 1 (a 26) (fd 26) ["cell"] sp_law_beside) (G_law_draw : DFn P w K mg base 1 (a 25) (fd 25) ["deck", "bound"] sp_law_draw) : DFn P w K mg base 2 (a 28) (fd 28) ["deck", "taken", "low", "wide"] sp_law_lump := by
  refine dfn_of T.F_law_lump sc_law_lump sp_len_law_lump (fun cdv A outer s B Ed hr hgd => ?_)
  have am : Amb (A.deeper (envOfC "_law_lump" (defScope s_law_lump) s.heap.objs.size (a 28) cdv)) 1 := ⟨hr, hgd⟩
  refine ⟨_, (dss_cons (ds_set 4 sc_law_lump.nd (de_callTy call_tuple_of cad_tuple rfl T.m_tuple bt_tuple (da_cons (de_lc rfl sc_law_lump.nd (di_rng1 rfl T.m_range (da_cons de_int da_nil)) (blkOk_by (own := [("axis", 9)]) (N := N_law_lump) (sc := (defScope s_law_lump)) (by decide +kernel))
      (fun _ _ _ _ _ _ => (dgv_name 9 sc_law_lump.nd)) (fun _ _ _ _ _ _ => dts_nil) (fun _ _ _ _ _ _ => (de_add (de_ix (de_var 2) (de_var 9)) (de_call G_law_draw (am.room.mono (by decide)) am.guards rfl T.g_law_draw T.F_law_draw.kp T.b_law_draw .nil closed_nil dtk0 (da_cons (de_var 0) (da_cons (de_var 3) da_nil)))))) da_nil)))
    (dss_cons (ds_if (dt_cmp1 (cd_in am) (de_var 4) (de_var 1))
    (dss_one (ds_ret (de_lst da_nil)))
    dss_nil)
    (dss_cons (ds_set 5 sc_law_lump.nd (de_lstO (da_cons (de_var 4) da_nil)))
    (dss_cons (ds_for (passes_of rfl) rfl (di_rng1 rfl T.m_range (da_cons (de_call G_law_draw (am.room.mono (by decide)) am.guards rfl T.g_law_draw T.F_law_draw.kp T.b_law_draw .nil closed_nil dtk_body (da_cons (de_var 0) (da_cons de_int da_nil))) da_nil)) (dg_name 6 sc_law_lump.nd)
    (dss_cons (ds_set 7 sc_law_lump.nd (de_ix (de_call G_law_beside (am.room.mono (by decide)) am.guards rfl T.g_law_beside T.F_law_beside.kp T.b_law_beside .nil closed_nil dtk_body (da_cons (de_ix (de_var 5) (de_call G_law_draw (am.room.mono (by decide)) am.guards rfl T.g_law_draw T.F_law_draw.kp T.b_law_draw .nil closed_nil dtk_body (da_cons (de_var 0) (da_cons (de_callB call_len cad_len rfl T.m_len bt_len (da_cons (de_var 5) da_nil)) da_nil)))) da_nil)) (de_call G_law_draw (am.room.mono (by decide)) am.guards rfl T.g_law_draw T.F_law_draw.kp T.b_law_draw .nil closed_nil dtk_body (da_cons (de_var 0) (da_cons de_int da_nil)))))
    (dss_cons (ds_set 8 sc_law_lump.nd (de_callB (cr_all rfl) cad_all rfl T.m_all bt_all (da_cons (de_lc rfl sc_law_lump.nd (di_rng1 rfl T.m_range (da_cons de_int da_nil)) (blkOk_by (own := [("axis", 9)]) (N := N_law_lump) (sc := (defScope s_law_lump)) (by decide +kernel))
      (fun _ _ _ _ _ _ => (dgv_name 9 sc_law_lump.nd)) (fun _ _ _ _ _ _ => dts_nil) (fun _ _ _ _ _ _ => (de_and (de_cmp1 cd_le (de_ix (de_var 2) (de_var 9)) (de_ix (de_var 7) (de_var 9))) (de_one (de_cmp1 cd_lt (de_ix (de_var 7) (de_var 9)) (de_add (de_ix (de_var 2) (de_var 9)) (de_var 3))))))) da_nil)))
    (dss_one (ds_if (dw_t (dw_and (dt_tru (de_var 8)) (dw_and (dt_cmp1 (cd_notIn am) (de_var 7) (de_var 5)) (dw_and1 (dt_cmp1 (cd_notIn am) (de_var 7) (de_var 1))))))
    (dss_one (ds_expr (de_append (de_var 5) (da_cons (de_var 7) da_nil))))
    dss_nil)))))
    (dss_one (ds_ret (de_callB cr_sortA cad_sort rfl T.m_sorted bt_sorted (da_cons (de_var 5) da_nil)))))))), ?_⟩
  intro ds Q h
  obtain ⟨a, T, l, w, rfl, hd, hT, w0, hl, q⟩ := h
  have l0 := hl 0 (by decide) (by decide)
  have D0 := DSt.refl hd
  have al : ∀ k, 0 ≤ k → k < 3 → atI [D.int l.1, .int l.2.1, .int l.2.2] k = some (.int (cAt l k)) := fun k h0 h3 => atI_three h0 h3
  simp!
  refine ⟨by decide, by decide, ?_⟩
  have l1 := hl 1 (by decide) (by decide)
  have l2 := hl 2 (by decide) (by decide)
  have wb : ∀ {c : C3}, inWin l w c → inBox c := fun {c} ⟨⟨w0, w1⟩, ⟨w2, w3⟩, w4, w5⟩ => by
    have a0 : cAt l 0 = l.1 := rfl
    have a1 : cAt l 1 = l.2.1 := rfl
    have a2 : cAt l 2 = l.2.2 := rfl
    exact ⟨⟨by omega, by omega⟩, ⟨by omega, by omega⟩, by omega, by omega⟩
  rw [upTo3]
  simp only [z_lcCons, z_lcN, z_lcNil]
  dsimp!
  refine draw_do D0.deck (by omega) fun d0 S1 d00 d01 D1' => ?_
  dsimp!
  simp only [z_lcCons, z_lcN, z_lcNil]
  dsimp!
  refine draw_do D1'.deck (by omega) fun d1 S2 d10 d11 D2' => ?_
  dsimp!
  simp only [z_lcCons, z_lcN, z_lcNil]
  dsimp!
  refine draw_do D2'.deck (by omega) fun d2 S d20 d21 D3' => ?_
  have D1 := (D0.trans D1').trans (D2'.trans D3')
  dsimp!
  simp only [z_lcCons, z_lcN, z_lcNil]
  dsimp!
  have sw : inWin l w (l.1 + d0, l.2.1 + d1, l.2.2 + d2) := ⟨⟨by dsimp only; omega, by dsimp only; omega⟩, ⟨by dsimp only; omega, by dsimp only; omega⟩, by dsimp only; omega, by dsimp only; omega⟩
  generalize hs : (l.1 + d0, l.2.1 + d1, l.2.2 + d2) = s at sw
  have es : (D.tup [.int (l.1 + d0), .int (l.2.1 + d1), .int (l.2.2 + d2)]) = cD s := by rw [← hs]; rfl
  have sb := wb sw
  have Tb : ∀ c ∈ T, ∀ k, -(2 ^ 60) < cAt c k ∧ cAt c k < 2 ^ 60 := fun c hc => lmp_bd2 (hT c hc)
  rw [es]
  refine in_cells rfl (lmp_bd2 sb) Tb ?_
  by_cases hm : s ∈ T
  · rw [decide_eq_true hm]
    have b1 : (false != true) = true := rfl
    simp! [b1]
    have e0 : csort [] = [] := by have := csort_perm []; exact this.eq_nil
    have q := q [] _ ⟨.nil, Nat.zero_le _, fun c h => (nomatch h), fun c h => (nomatch h), fun c h => (nomatch h), fun c h => (nomatch h)⟩ (fun e => by rw [e] at hm; cases hm) D1
    rw [e0] at q
    exact ⟨szL (by decide), lows_same q⟩
  rw [decide_eq_false hm]
  have b1 : (false != false) = false := rfl
  simp! [b1]
  refine ⟨szL (by decide), fun p hp => ?_⟩
  have pa : p ≠ a := D1.deck.ne hp
  have hp0 : B.S p = none := D1.none hp
  have D2 : DSt B.S a (put S p (.lst [cD s])) := D1.new hp
  refine draw_do D2.deck (by decide) fun u S4 u0 u1 D4' => ?_
  have D4 := D2.trans D4'
  have hS4 := D4'.keep p _ pa put_same
  simp!
  refine ⟨by omega, by omega, ?_⟩
  refine for_inv (fun k env S => DSt B.S a S ∧ (∃ cs : List C3, S p = some (.lst (cs.map cD)) ∧ cs ≠ [] ∧ cs.length ≤ k + 1 ∧ cs.Nodup ∧ (∀ c ∈ cs, inWin l w c) ∧ Conn cs ∧ ∀ c ∈ cs, c ∉ T) ∧ ∃ x6 x7 x8 x9, env = [some (.ref a), some (.lst (T.map cD)), some (.lst [.int l.1, .int l.2.1, .int l.2.2]), some (.int w), some (cD s), some (.ref p), x6, x7, x8, x9]) ⟨D4, ⟨[s], hS4, by simp, Nat.le_refl _, by simp, fun c hc => by rw [List.mem_singleton.mp hc]; exact sw, conn_one, fun c hc => by rw [List.mem_singleton.mp hc]; exact hm⟩, _, _, _, _, rfl⟩ (fun k d env S Z hdk ⟨D5, ⟨cs, hS, ne, hcl, nd, cb, cn, ct⟩, x6, x7, x8, x9, e⟩ hz => ⟨trivial, ?_⟩) (fun env S ⟨D5, ⟨cs, hS, ne, hcl, nd, cb, cn, ct⟩, x6, x7, x8, x9, e⟩ => ⟨trivial, ?_⟩)
  · subst e
    obtain ⟨rfl, hk⟩ := upTo_get hdk
    have hk : (k : Int) < u := by omega
    have cl0 : 0 < cs.length := List.length_pos_iff.mpr ne
    simp!
    refine zo_lenR hS ?_
    simp!
    rw [List.length_map]
    refine draw_do D5.deck (by omega) fun y S6 y0 y1 D6' => ?_
    have D6 := D5.trans D6'
    have hS6 := D6'.keep p _ pa hS
    obtain ⟨b, hb⟩ : ∃ b, cs[y.toNat]? = some b := ⟨cs[y.toNat]'(by omega), List.getElem?_eq_getElem (by omega)⟩
    have bm := List.mem_of_getElem? hb
    simp!
    refine zo_ixR hS6 (zIx_nat (Int.toNat_of_nonneg y0).symm (by rw [List.getElem?_map, hb]; rfl) ?_)
    simp!
    refine ⟨b, rfl, fun S7 sb7 => ?_⟩
    obtain ⟨dk, hdk2, okd⟩ := D6.deck
    have D7 : DSt B.S a S7 := ⟨⟨dk, sb7 _ _ hdk2, okd⟩, fun c o n e => sb7 _ _ (D6.keep c o n e)⟩
    have hS7 := sb7 _ _ hS6
    simp!
    refine draw_do D7.deck (by decide) fun z S8 z0 z1 D8' => ?_
    have D8 := D7.trans D8'
    have hS8 := D8'.keep p _ pa hS7
    have z6 : z.toNat < (besideL b).length := by show z.toNat < 6; omega
    obtain ⟨x, hx⟩ : ∃ x, (besideL b)[z.toNat]? = some x := ⟨(besideL b)[z.toNat], List.getElem?_eq_getElem z6⟩
    have hxd := lmp_dist (List.mem_of_getElem? hx)
    simp!
    refine zIx_nat (Int.toNat_of_nonneg z0).symm (by rw [List.getElem?_map, hx]; rfl) ?_
    simp!
    refine ⟨by decide, by decide, ?_⟩
    refine lc_axes (fun k => .bl (decide (cAt l k ≤ cAt x k) && decide (cAt x k < cAt l k + w))) trivial (fun k k0 k3 Q q => ?_) ?_
    · simp!
      refine zIx_of (al k k0 k3) ?_
      simp!
      refine cD_ix k0 k3 ?_
      simp!
      by_cases h1 : cAt l k ≤ cAt x k
      · rw [decide_eq_true h1] at q ⊢
        simp!
        refine cD_ix k0 k3 ?_
        simp!
        refine zIx_of (al k k0 k3) ?_
        simp! [Bool.true_and] at q ⊢
        exact q
      · rw [decide_eq_false h1] at q ⊢
        simp! [Bool.false_and] at q ⊢
        exact q
    simp!
    refine all_do (xs := [(0 : Int), 1, 2]) (fun k => decide (cAt l k ≤ cAt x k) && decide (cAt x k < cAt l k + w)) ?_
    have noadd : (∃ cs : List C3, S8 p = some (.lst (cs.map cD)) ∧ cs ≠ [] ∧ cs.length ≤ k + 1 + 1 ∧ cs.Nodup ∧ (∀ c ∈ cs, inWin l w c) ∧ Conn cs ∧ ∀ c ∈ cs, c ∉ T) := ⟨cs, hS8, ne, by omega, nd, cb, cn, ct⟩
    cases hin : [(0 : Int), 1, 2].all (fun k => decide (cAt l k ≤ cAt x k) && decide (cAt x k < cAt l k + w)) with
    | false =>
      simp!
      exact hz _ _ ⟨D8, noadd, _, _, _, _, rfl⟩
    | true =>
      have xw : inWin l w x := by
        simp only [List.all_cons, List.all_nil, Bool.and_eq_true, decide_eq_true_eq, and_true] at hin
        obtain ⟨⟨i0, i1⟩, ⟨i2, i3⟩, i4, i5⟩ := hin
        exact ⟨⟨i0, i1⟩, ⟨i2, i3⟩, i4, i5⟩
      have xb := wb xw
      simp!
      refine in_cells (seqOf_ref hS8) (lmp_bd2 xb) (fun c hc => lmp_bd2 (wb (cb c hc))) ?_
      by_cases m1 : x ∈ cs
      · rw [decide_eq_true m1]
        have b1 : (true != true) = false := rfl
        simp! [b1]
        exact hz _ _ ⟨D8, noadd, _, _, _, _, rfl⟩
      rw [decide_eq_false m1]
      have b1 : (true != false) = true := rfl
      simp! [b1]
      refine in_cells rfl (lmp_bd2 xb) Tb ?_
      by_cases m2 : x ∈ T
      · rw [decide_eq_true m2]
        have b1 : (true != true) = false := rfl
        simp! [b1]
        exact hz _ _ ⟨D8, noadd, _, _, _, _, rfl⟩
      rw [decide_eq_false m2]
      simp! [b1]
      refine ⟨by unfold tyD; simp only [hS8], zo_append hS8 (szL (by rw [List.length_map]; omega)) ?_⟩
      simp!
      refine hz _ _ ⟨D8.own hp0 pa, ⟨cs ++ [x], by rw [put_same, List.map_append]; rfl, by simp, by rw [List.length_append]; simp; omega, ?_, fun c hc => ?_, conn_grow cn bm hxd, fun c hc => ?_⟩, _, _, _, _, rfl⟩
      · exact List.nodup_append.mpr ⟨nd, by simp, fun y hy z hz e => by rw [List.mem_singleton.mp hz] at e; exact m1 (e ▸ hy)⟩
      · rcases List.mem_append.mp hc with hc | hc
        · exact cb c hc
        · rw [List.mem_singleton.mp hc]; exact xw
      · rcases List.mem_append.mp hc with hc | hc
        · exact ct c hc
        · rw [List.mem_singleton.mp hc]; exact m2
  · subst e
    simp!
    refine sort_seq (seqOf_ref hS) ?_
    rw [DL.upTo_len] at hcl
    refine lows_sub sub_cut (q cs _ ⟨nd, by omega, fun c hc k k0 k3 => ?_, cn, ct, cb⟩ (fun _ => ne) (D5.cut hp0 pa))
    obtain ⟨b0, b1, b2⟩ := wb (cb c hc)
    obtain rfl | rfl | rfl : k = 0 ∨ k = 1 ∨ k = 2 := by omega
    · exact b0
    · exact b1
    · exact b2
/-- some pieces, at least one, that go together -/
def sp_law_few : DSp := sp1 fun d S Q _ => ∃ (a : Addr), d = .ref a ∧ Deck S a ∧ ∀ (ps : List Piece) S', AsmOk ps → (∀ p ∈ ps, ∀ q ∈ ps, ∀ c ∈ p.2, ∀ d ∈ q.2, ∀ k, cAt c k - cAt d k ≤ 3) → DSt S a S' → Q (.lst (ps.map pcD)) S'
theorem sp_len_law_few : ∀ ds S Q E, sp_law_few ds S Q E → ds.length = 1 := sp1_len
theorem few40 {ps : List Piece} (h : ∀ p ∈ ps, p.2.length ≤ 40) : (ps.flatMap (·.2)).length ≤ 40 * ps.length := by
  induction ps with
  | nil => exact Nat.le_refl _
  | cons p ps ih =>
    rw [List.flatMap_cons, List.length_append, List.length_cons]
    have := ih fun q hq => h q (List.mem_cons_of_mem _ hq)
    have := h p List.mem_cons_self
    omega
theorem few_small0 {p : Piece} (h : PieceC p) : Small 3 16300 (pcD p) := by
  refine (small_tup (k := 2) (n := 8100) (m := 2) (Nat.le_refl _) fun x hx => ?_).mono (Nat.le_refl _) (by decide)
  simp only [List.mem_cons, List.mem_nil_iff, or_false] at hx
  rcases hx with rfl | rfl
  · exact (nm_small (name_ok h.1)).mono (by decide) (by decide)
  · exact (small_cellsT (m := 40) h.2.few fun c hc => box_bd (h.2.box c hc)).mono (Nat.le_refl _) (by decide)
theorem asm_sols {ps : List Piece} (ok : AsmOk ps) : SolsOk (ps.map (·.2)) :=
  ⟨fun e => ok.ne (List.map_eq_nil_iff.mp e), by rw [List.length_map]; exact ok.few, fun cs h => by obtain ⟨p, hp, rfl⟩ := List.mem_map.mp h; exact (ok.all p hp).2.ne, fun cs h => by obtain ⟨p, hp, rfl⟩ := List.mem_map.mp h; exact (ok.all p hp).2.few⟩
theorem win_near {l : C3} {w : Int} {c d : C3} (h4 : w ≤ 4) (hc : inWin l w c) (hd : inWin l w d) (k : Int) : cAt c k - cAt d k ≤ 3 := by
  obtain ⟨⟨a0, a1⟩, ⟨a2, a3⟩, a4, a5⟩ := hc
  obtain ⟨⟨b0, b1⟩, ⟨b2, b3⟩, b4, b5⟩ := hd
  unfold cAt
  split
  · omega
  · split <;> omega
theorem ok_law_few (T : Txt K mg C a fd) (G_law_draw : DFn P w K mg base 1 (a 25) (fd 25) ["deck", "bound"] sp_law_draw) (G_law_lump : DFn P w K mg base 2 (a 28) (fd 28) ["deck", "taken", "low", "wide"] sp_law_lump) (G_law_names : DFn P w K mg base 2 (a 27) (fd 27) ["deck", "count"] sp_law_names) : DFn P w K mg base 3 (a 29) (fd 29) ["deck"] sp_law_few := by
  refine dfn_of T.F_law_few sc_law_few sp_len_law_few (fun cdv A outer s B Ed hr hgd => ?_)
  have am : Amb (A.deeper (envOfC "_law_few" (defScope s_law_few) s.heap.objs.size (a 29) cdv)) 2 := ⟨hr, hgd⟩
  refine ⟨_, (dss_cons (ds_set 1 sc_law_few.nd (de_ix (de_lst (da_cons de_int (da_cons de_int (da_cons de_int da_nil)))) (de_call G_law_draw (am.room.mono (by decide)) am.guards rfl T.g_law_draw T.F_law_draw.kp T.b_law_draw .nil closed_nil dtk_body (da_cons (de_var 0) (da_cons de_int da_nil)))))
    (dss_cons (ds_setLc 2 rfl sc_law_few.nd (sw_true rfl rfl rfl (by decide +kernel)) (di_rng1 rfl T.m_range (da_cons de_int da_nil)) (blkOk_by (own := [("axis", 8)]) (N := N_law_few) (sc := (defScope s_law_few)) (by decide +kernel))
      (fun _ _ _ _ _ _ => (dgv_name 8 sc_law_few.nd)) (fun _ _ _ _ _ _ => dts_nil) (fun _ _ _ _ _ _ => (de_call G_law_draw (am.room.mono (by decide)) am.guards rfl T.g_law_draw T.F_law_draw.kp T.b_law_draw .nil closed_nil dtk0 (da_cons (de_var 0) (da_cons (de_sub de_int (de_var 1)) da_nil)))))
    (dss_cons (ds_set 3 sc_law_few.nd (de_call G_law_names (am.room.mono (by decide)) am.guards rfl T.g_law_names T.F_law_names.kp T.b_law_names .nil closed_nil dtk_body (da_cons (de_var 0) (da_cons de_int da_nil))))
    (dss_cons (ds_set 4 sc_law_few.nd (de_lst da_nil))
    (dss_cons (ds_set 5 sc_law_few.nd (de_lstO da_nil))
    (dss_cons (ds_for (passes_of rfl) rfl (di_rng1 rfl T.m_range (da_cons (de_add de_int (de_call G_law_draw (am.room.mono (by decide)) am.guards rfl T.g_law_draw T.F_law_draw.kp T.b_law_draw .nil closed_nil dtk_body (da_cons (de_var 0) (da_cons de_int da_nil)))) da_nil)) (dg_name 6 sc_law_few.nd)
    (dss_cons (ds_set 7 sc_law_few.nd (de_call G_law_lump (am.room.mono (by decide)) am.guards rfl T.g_law_lump T.F_law_lump.kp T.b_law_lump .nil closed_nil dtk_body (da_cons (de_var 0) (da_cons (de_var 4) (da_cons (de_var 2) (da_cons (de_var 1) da_nil))))))
    (dss_one (ds_if (dt_cmp1 cd_gt (de_callB call_len cad_len rfl T.m_len bt_len (da_cons (de_var 7) da_nil)) de_int)
    (dss_cons (ds_expr (de_append (de_var 5) (da_cons (de_tup (da_cons (de_ix (de_var 3) (de_var 6)) (da_cons (de_callTy call_tuple_of cad_tuple rfl T.m_tuple bt_tuple (da_cons (de_var 7) da_nil)) da_nil))) da_nil)))
    (dss_one (ds_set 4 sc_law_few.nd (de_add (de_var 4) (de_var 7)))))
    dss_nil))))
    (dss_one (ds_ret (de_var 5))))))))), ?_⟩
  intro ds Q h
  obtain ⟨_, rfl, a, rfl, hd, q⟩ := sp1_get h
  have D0 := DSt.refl hd
  dsimp!
  refine draw_do D0.deck (by decide) fun v S1 v0 v1 D1 => ?_
  obtain ⟨w, hw, w0, w16⟩ : ∃ w : Int, atI [D.int 2, .int 3, .int 4] v = some (.int w) ∧ 0 < w ∧ w ≤ 4 := by
    obtain rfl | rfl | rfl : v = 0 ∨ v = 1 ∨ v = 2 := by omega
    · exact ⟨2, atI_0, by decide, by decide⟩
    · exact ⟨3, atI_1, by decide, by decide⟩
    · exact ⟨4, atI_2, by decide, by decide⟩
  dsimp!
  refine zIx_of hw ?_
  dsimp!
  refine lc_drawn (fun d => ∃ i : Int, d = .int i ∧ 0 ≤ i ∧ i + w ≤ 16) D1 (fun d hd S Q D2 hq => ?_) (fun acc S2 hl hr D2 => ?_)
  · dsimp!
    refine draw_do D2.deck (by omega) fun u S3 u0 u1 D3 => ?_
    exact hq _ _ ⟨_, rfl, by omega, by omega⟩ (D2.trans D3)
  obtain ⟨l, rfl, hs⟩ := three_ints hl hr
  dsimp!
  refine ⟨a, 6, rfl, rfl, by decide, D2.deck, fun ss S3 sl sn snd D3' => ?_⟩
  have D3 := D2.trans D3'
  dsimp!
  intro p hp
  have pa : p ≠ a := D3.deck.ne hp
  have hp0 : B.S p = none := D3.none hp
  have D4 : DSt B.S a (put S3 p (.lst [])) := D3.new hp
  refine draw_do D4.deck (by omega) fun u S5 u0 u1 D5' => ?_
  have D5 := D4.trans D5'
  have hS5 := D5'.keep p _ pa put_same
  dsimp!
  refine ⟨by omega, by omega, ?_⟩
  have en : (1 + u).toNat ≤ 6 := by omega
  have e1 : 1 ≤ (1 + u).toNat := by omega
  generalize (1 + u).toNat = r at en e1 ⊢
  refine for_vs [4, 6, 7] (fun k vs S => DSt B.S a S ∧ ∃ (ps : List Piece), S p = some (.lst (ps.map pcD)) ∧ (1 ≤ k → ps ≠ []) ∧ ps.length ≤ k ∧ PcsOk ps ∧ (∀ q ∈ ps, ∃ j, j < k ∧ ss[j]? = some q.1) ∧ (∀ q ∈ ps, ∀ c ∈ q.2, inWin l w c) ∧ ∃ x7 x8, vs = [some (.lst ((ps.flatMap (·.2)).map cD)), x7, x8]) (xs0 := [some (.lst []), none, none]) rfl
    ⟨D5, [], hS5, fun h => absurd h (by decide), Nat.le_refl _, ⟨fun _ h => (nomatch h), .nil, .nil⟩, fun _ h => (nomatch h), fun _ h => (nomatch h), _, _, rfl⟩ (fun k d vs S Z hd ⟨D6, ps, hS, hne, hlen, pok, hss, hwn, x7, x8, e⟩ hz => ⟨trivial, ?_⟩) (fun vs S ⟨D6, ps, hS, hne, hlen, pok, hss, hwn, x7, x8, e⟩ => ⟨trivial, ?_⟩)
  · subst e
    obtain ⟨rfl, hk⟩ := upTo_get hd
    dsimp!
    have hbx : ∀ c ∈ ps.flatMap (·.2), inBox c := fun c hc => by
      obtain ⟨q, hq, hc⟩ := List.mem_flatMap.mp hc
      exact (pok.all q hq).2.box c hc
    refine ⟨a, ps.flatMap (·.2), l, w, rfl, D6.deck, hbx, w0, fun j j0 j3 => hs j, fun cs S7 g hg D7' => ?_⟩
    have D7 := D6.trans D7'
    have hS7 := D7'.keep p _ pa hS
    dsimp!
    have lc : (csort cs).length = cs.length := (csort_perm cs).length_eq
    by_cases h0 : cs = []
    · have e0 : (csort cs).length = 0 := by rw [lc, h0]; rfl
      rw [decide_eq_false (show ¬ (0 : Int) < ((csort cs).length : Int) by omega)]
      dsimp!
      refine hz [_, _, _] _ ⟨D7, ps, hS7, fun hk1 e => ?_, by omega, pok, fun q hq => ?_, hwn, _, _, rfl⟩
      · subst e
        exact hg rfl h0
      · obtain ⟨j, hj, h⟩ := hss q hq
        exact ⟨j, by omega, h⟩
    · have gs := g.solid h0
      have e0 : 0 < cs.length := List.length_pos_iff.mpr h0
      rw [decide_eq_true (show (0 : Int) < ((csort cs).length : Int) by omega)]
      obtain ⟨s, hs2⟩ : ∃ s, ss[k]? = some s := ⟨ss[k]'(by omega), List.getElem?_eq_getElem (by omega)⟩
      dsimp!
      refine ⟨by unfold tyD; simp only [hS7], ?_⟩
      refine zIx_nat (k := k) (by omega) (by rw [List.getElem?_map, hs2]; rfl) ?_
      dsimp!
      refine zo_append hS7 (szL (by rw [List.length_map]; omega)) ?_
      dsimp!
      have few := gs.few
      have lf : (ps.flatMap (·.2)).length ≤ 40 * ps.length := few40 fun q hq => (pok.all q hq).2.few
      refine ⟨szL (by omega), ?_⟩
      have hnm := sn s (List.mem_of_getElem? hs2)
      have ap : ∀ q ∈ ps, LW.apart (s, csort cs) q := fun q hq c hc hc2 => g.apart c ((csort_perm cs).mem_iff.mp hc) (List.mem_flatMap.mpr ⟨q, hq, hc2⟩)
      have nn : s ∉ ps.map (·.1) := fun hm => by
        obtain ⟨q, hq, e⟩ := List.mem_map.mp hm
        obtain ⟨j, hj, h⟩ := hss q hq
        rw [e] at h
        obtain ⟨l1, e1⟩ := List.getElem?_eq_some_iff.mp h
        obtain ⟨l2, e2⟩ := List.getElem?_eq_some_iff.mp hs2
        exact List.pairwise_iff_getElem.mp snd j k l1 l2 hj (e1.trans e2.symm)
      have ef : (ps.flatMap (·.2)).map cD ++ (csort cs).map cD = ((ps ++ [(s, csort cs)]).flatMap (·.2)).map cD := by
        rw [List.flatMap_append, List.map_append]
        simp
      rw [ef]
      refine hz [_, _, _] _ ⟨D7.own hp0 pa, ps ++ [(s, csort cs)], by rw [put_same, List.map_append]; rfl, fun _ => by simp, by rw [List.length_append, List.length_singleton]; omega, ⟨fun q hq => ?_, ?_, ?_⟩, fun q hq => ?_, fun q hq c hc => ?_, _, _, rfl⟩
      · rcases List.mem_append.mp hq with hq | hq
        · exact pok.all q hq
        · rw [List.mem_singleton.mp hq]; exact ⟨hnm, gs⟩
      · rw [List.map_append]
        exact List.nodup_append.mpr ⟨pok.names, by simp, fun x hx t ht e => by
          rw [List.map_cons, List.map_nil, List.mem_singleton] at ht
          have e2 : x = s := by rw [e, ht]
          exact nn (e2 ▸ hx)⟩
      · exact List.pairwise_append.mpr ⟨pok.apart, by simp, fun q hq t ht => by rw [List.mem_singleton.mp ht]; exact ap q hq⟩
      · rcases List.mem_append.mp hq with hq | hq
        · obtain ⟨j, hj, h⟩ := hss q hq
          exact ⟨j, by omega, h⟩
        · rw [List.mem_singleton.mp hq]; exact ⟨k, by omega, hs2⟩
      · rcases List.mem_append.mp hq with hq | hq
        · exact hwn q hq c hc
        · rw [List.mem_singleton.mp hq] at hc
          exact g.win c ((csort_perm cs).mem_iff.mp hc)
  · subst e
    dsimp!
    rw [DL.upTo_len] at hne hlen
    exact lows_lst hS (q ps _ ⟨hne (by omega), by omega, pok.all, pok.names, pok.apart⟩ (fun p hp r hr c hc d hd k => win_near (by omega) (hwn p hp c hc) (hwn r hr d hd) k) (D6.cut hp0 pa))
/-- a turn's row -/
def rowOf (p : P2) : C3 := (if p.1 = 0 then p.2 else 0, if p.1 = 1 then p.2 else 0, if p.1 = 2 then p.2 else 0)
def rowD (c : C3) : D := .lst [.int c.1, .int c.2.1, .int c.2.2]
def sp_law_row_of : DSp := sp1 fun d S Q _ => ∃ p : P2, d = pD p ∧ POk p ∧ Q (rowD (rowOf p)) S
theorem sp_len_law_row_of : ∀ ds S Q E, sp_law_row_of ds S Q E → ds.length = 1 := sp1_len
theorem ok_law_row_of (T : Txt K mg C a fd)  : DFn P w K mg base 1 (a 30) (fd 30) ["pair"] sp_law_row_of := by
  refine dfn_of T.F_law_row_of sc_law_row_of sp_len_law_row_of (fun cdv A outer s B Ed hr hgd => ?_)
  have am : Amb (A.deeper (envOfC "_law_row_of" (defScope s_law_row_of) s.heap.objs.size (a 30) cdv)) 0 := ⟨hr, hgd⟩
  refine ⟨_, (dss_cons (ds_set 1 sc_law_row_of.nd (de_lstO (da_cons de_int (da_cons de_int (da_cons de_int da_nil)))))
    (dss_cons (ds_asg (de_ix (de_var 0) de_int) (dg_sub (de_var 1) (de_ix (de_var 0) de_int)))
    (dss_one (ds_ret (de_var 1))))), ?_⟩
  intro ds Q h
  obtain ⟨_, rfl, ⟨x, y⟩, rfl, ⟨⟨h0, h1⟩, _⟩, q⟩ := sp1_get h
  simp! [pD]
  refine ⟨szL (by decide), fun p hp => ?_⟩
  have fin : ∀ c : C3, c = rowOf (x, y) → lows Q (.ref p) (put B.S p (.lst [.int c.1, .int c.2.1, .int c.2.2])) := fun c e => by
    subst e
    refine ⟨_, cut (put B.S p (.lst _)) p, sub_cut, .lst put_same cut_same, ?_⟩
    rw [cut_put hp]
    exact q
  obtain rfl | rfl | rfl : x = 0 ∨ x = 1 ∨ x = 2 := by omega
  · simp!
    exact fin (y, 0, 0) rfl
  · simp!
    exact fin (0, y, 0) rfl
  · simp!
    exact fin (0, 0, y) rfl
/-- the turns, by determinants -/
def axs6 : List (Int × Int × Int) := [(0, 1, 2), (0, 2, 1), (1, 0, 2), (1, 2, 0), (2, 0, 1), (2, 1, 0)]
def mkT (ax : Int × Int × Int) (code : Int) : T3 := ((ax.1, 1 - 2 * (code / 4)), (ax.2.1, 1 - 2 * (code / 2 % 2)), (ax.2.2, 1 - 2 * (code % 2)))
def minors (b c : C3) : C3 := (b.2.1 * c.2.2 - b.2.2 * c.2.1, b.1 * c.2.2 - b.2.2 * c.1, b.1 * c.2.1 - b.2.1 * c.1)
def detT (t : T3) : Int := (rowOf t.1).1 * (minors (rowOf t.2.1) (rowOf t.2.2)).1 - (rowOf t.1).2.1 * (minors (rowOf t.2.1) (rowOf t.2.2)).2.1 + (rowOf t.1).2.2 * (minors (rowOf t.2.1) (rowOf t.2.2)).2.2
def good (t : T3) : Bool := decide (detT t = 1)
def codes (n : Nat) : List Int := (List.range n).map fun k => (0 : Int) + (k : Nat)
def turns24 : List T3 := axs6.flatMap fun ax => ((codes 8).map (mkT ax)).filter good
theorem turns24_len : turns24.length = 24 := by decide +kernel
theorem turns24_ok : ∀ t ∈ turns24, TOk t := by unfold TOk POk; decide +kernel
def sp_law_turns : DSp := fun ds S Q _ => ds = [] ∧ Q (.lst (sortD (turns24.map tD))) S
theorem sp_len_law_turns : ∀ ds S Q E, sp_law_turns ds S Q E → ds.length = 0 := fun ds S Q E h => by rw [h.1]; rfl
theorem turns24_alikes : alikes (turns24.map tD) := by
  have e : ∀ t : T3, py (tD t) = .tuple [.tuple [.int t.1.1, .int t.1.2], .tuple [.int t.2.1.1, .int t.2.1.2], .tuple [.int t.2.2.1, .int t.2.2.2]] := fun t => by simp [tD, pD, py, pyAll]
  refine ⟨plainAll_iff.mpr fun d hd => ?_, fun d hd d' hd' => ?_, .inl fun d hd => ?_, fun d hd => ?_⟩
  · obtain ⟨t, _, rfl⟩ := List.mem_map.mp hd
    rfl
  · obtain ⟨x, hx, rfl⟩ := List.mem_map.mp hd
    obtain ⟨t, _, rfl⟩ := List.mem_map.mp hx
    obtain ⟨x', hx', rfl⟩ := List.mem_map.mp hd'
    obtain ⟨t', _, rfl⟩ := List.mem_map.mp hx'
    rw [e, e]
    simp [PySem.W.alike, PySem.W.alikeAll]
  · obtain ⟨x, hx, rfl⟩ := List.mem_map.mp hd
    obtain ⟨t, _, rfl⟩ := List.mem_map.mp hx
    exact ⟨_, _, e t⟩
  · obtain ⟨t, _, rfl⟩ := List.mem_map.mp hd
    rw [e]
    simp [PyData.depth, PyData.depthAll]
theorem row_bd' (p : P2) (h : POk p) : (-(2 ^ 64) < (rowOf p).1 ∧ (rowOf p).1 < 2 ^ 64) ∧ (-(2 ^ 64) < (rowOf p).2.1 ∧ (rowOf p).2.1 < 2 ^ 64) ∧ (-(2 ^ 64) < (rowOf p).2.2 ∧ (rowOf p).2.2 < 2 ^ 64) := by
  obtain ⟨_, h2⟩ := h
  unfold rowOf
  refine ⟨?_, ?_, ?_⟩ <;> (simp only; split <;> omega)
theorem ok_law_turns (T : Txt K mg C a fd) (G_law_row_of : DFn P w K mg base 1 (a 30) (fd 30) ["pair"] sp_law_row_of) : DFn P w K mg base 2 (a 31) (fd 31) [] sp_law_turns := by
  refine dfn_of T.F_law_turns sc_law_turns sp_len_law_turns (fun cdv A outer s B Ed hr hgd => ?_)
  have am : Amb (A.deeper (envOfC "_law_turns" (defScope s_law_turns) s.heap.objs.size (a 31) cdv)) 1 := ⟨hr, hgd⟩
  refine ⟨_, (dss_cons (ds_set 0 sc_law_turns.nd (de_lstO da_nil))
    (dss_cons (ds_for (passes_of rfl) rfl (di_seq (de_lst (da_cons (de_tup (da_cons de_int (da_cons de_int (da_cons de_int da_nil)))) (da_cons (de_tup (da_cons de_int (da_cons de_int (da_cons de_int da_nil)))) (da_cons (de_tup (da_cons de_int (da_cons de_int (da_cons de_int da_nil)))) (da_cons (de_tup (da_cons de_int (da_cons de_int (da_cons de_int da_nil)))) (da_cons (de_tup (da_cons de_int (da_cons de_int (da_cons de_int da_nil)))) (da_cons (de_tup (da_cons de_int (da_cons de_int (da_cons de_int da_nil)))) da_nil)))))))) (dg_name 1 sc_law_turns.nd)
    (dss_one (ds_for (passes_of rfl) rfl (di_rng1 rfl T.m_range (da_cons de_int da_nil)) (dg_name 2 sc_law_turns.nd)
    (dss_cons (ds_set 3 sc_law_turns.nd (de_lst (da_cons (de_sub de_int (de_mul de_int (de_fdiv (de_var 2) de_int))) (da_cons (de_sub de_int (de_mul de_int (de_mod (de_callTy call_int1 cad_int rfl T.m_int bt_int (da_cons (de_fdiv (de_var 2) de_int) da_nil)) de_int))) (da_cons (de_sub de_int (de_mul de_int (de_mod (de_callTy call_int1 cad_int rfl T.m_int bt_int (da_cons (de_var 2) da_nil)) de_int))) da_nil)))))
    (dss_cons (ds_set 4 sc_law_turns.nd (de_callTy call_tuple_of cad_tuple rfl T.m_tuple bt_tuple (da_cons (de_lc rfl sc_law_turns.nd (di_rng1 rfl T.m_range (da_cons de_int da_nil)) (blkOk_by (own := [("k", 10)]) (N := N_law_turns) (sc := (defScope s_law_turns)) (by decide +kernel))
      (fun _ _ _ _ _ _ => (dgv_name 10 sc_law_turns.nd)) (fun _ _ _ _ _ _ => dts_nil) (fun _ _ _ _ _ _ => (de_tup (da_cons (de_ix (de_var 1) (de_var 10)) (da_cons (de_ix (de_var 3) (de_var 10)) da_nil))))) da_nil)))
    (dss_cons (ds_asg (de_lc rfl sc_law_turns.nd (di_seq (de_var 4)) (blkOk_by (own := [("pair", 9)]) (N := N_law_turns) (sc := (defScope s_law_turns)) (by decide +kernel))
      (fun _ _ _ _ _ _ => (dgv_name 9 sc_law_turns.nd)) (fun _ _ _ _ _ _ => dts_nil) (fun _ _ _ _ _ _ => (de_call G_law_row_of (am.room.mono (by decide)) am.guards rfl T.g_law_row_of T.F_law_row_of.kp T.b_law_row_of .nil closed_nil dtk0 (da_cons (de_var 9) da_nil)))) (dg_unl (n := 3) rfl (dgs_cons (dg_name 5 sc_law_turns.nd) (dgs_cons (dg_name 6 sc_law_turns.nd) (dgs_cons (dg_name 7 sc_law_turns.nd) dgs_nil)))))
    (dss_cons (ds_set 8 sc_law_turns.nd (de_lst (da_cons (de_sub (de_mul (de_ix (de_var 6) de_int) (de_ix (de_var 7) de_int)) (de_mul (de_ix (de_var 6) de_int) (de_ix (de_var 7) de_int))) (da_cons (de_sub (de_mul (de_ix (de_var 6) de_int) (de_ix (de_var 7) de_int)) (de_mul (de_ix (de_var 6) de_int) (de_ix (de_var 7) de_int))) (da_cons (de_sub (de_mul (de_ix (de_var 6) de_int) (de_ix (de_var 7) de_int)) (de_mul (de_ix (de_var 6) de_int) (de_ix (de_var 7) de_int))) da_nil)))))
    (dss_one (ds_if (dt_cmp1 (cd_eq am) (de_add (de_sub (de_mul (de_ix (de_var 5) de_int) (de_ix (de_var 8) de_int)) (de_mul (de_ix (de_var 5) de_int) (de_ix (de_var 8) de_int))) (de_mul (de_ix (de_var 5) de_int) (de_ix (de_var 8) de_int))) de_int)
    (dss_one (ds_expr (de_append (de_var 0) (da_cons (de_var 4) da_nil))))
    dss_nil)))))))))
    (dss_one (ds_ret (de_callB (cr_sortG am) cad_sortG rfl T.m_sorted bt_sorted (da_cons (de_var 0) da_nil)))))), ?_⟩
  intro ds Q h
  obtain ⟨rfl, q⟩ := h
  simp!
  refine ⟨szL (by decide), fun p hp => ⟨szL (by decide), szL (by decide), szL (by decide), szL (by decide), szL (by decide), szL (by decide), szL (by decide), ?_⟩⟩
  refine for_inv (all := axs6.map cD) (fun k env S => S = put B.S p (.lst (((axs6.take k).flatMap fun ax => ((codes 8).map (mkT ax)).filter good).map tD)) ∧ ∃ x1 x2 x3 x4 x5 x6 x7 x8 x9 x10, env = [some (.ref p), x1, x2, x3, x4, x5, x6, x7, x8, x9, x10]) ⟨rfl, none, none, none, none, none, none, none, none, none, none, rfl⟩
    (fun k d env S Z hd ⟨hS, x1, x2, x3, x4, x5, x6, x7, x8, x9, x10, e⟩ hz => ⟨trivial, ?_⟩) (fun env S ⟨hS, x1, x2, x3, x4, x5, x6, x7, x8, x9, x10, e⟩ => ⟨trivial, ?_⟩)
  · subst hS e
    rw [List.getElem?_map] at hd
    obtain ⟨ax, hax, rfl⟩ : ∃ ax, axs6[k]? = some ax ∧ d = cD ax := by
      cases e : axs6[k]? with
      | none => rw [e] at hd; cases hd
      | some c => rw [e] at hd; cases hd; exact ⟨c, rfl, rfl⟩
    have aok : (0 ≤ ax.1 ∧ ax.1 < 3) ∧ (0 ≤ ax.2.1 ∧ ax.2.1 < 3) ∧ (0 ≤ ax.2.2 ∧ ax.2.2 < 3) := by
      have hall : ∀ ax ∈ axs6, (0 ≤ ax.1 ∧ ax.1 < 3) ∧ (0 ≤ ax.2.1 ∧ ax.2.1 < 3) ∧ (0 ≤ ax.2.2 ∧ ax.2.2 < 3) := by decide
      exact hall ax (List.mem_of_getElem? hax)
    have hk6 : k < 6 := (List.getElem?_eq_some_iff.mp hax).1
    have et : axs6.take (k + 1) = axs6.take k ++ [ax] := by rw [List.take_add_one, hax]; rfl
    rw [et] at hz
    simp only [List.flatMap_append, List.flatMap_cons, List.flatMap_nil, List.append_nil] at hz
    have plen : ((axs6.take k).flatMap fun ax => ((codes 8).map (mkT ax)).filter good).length ≤ 48 := by
      have hall : ∀ k, k < 6 → ((axs6.take k).flatMap fun ax => ((codes 8).map (mkT ax)).filter good).length ≤ 48 := by decide +kernel
      exact hall k hk6
    generalize ((axs6.take k).flatMap fun ax => ((codes 8).map (mkT ax)).filter good) = pre at hz plen ⊢
    simp!
    refine ⟨by decide, trivial, for_inv (fun j env S => S = put B.S p (.lst ((pre ++ ((codes j).map (mkT ax)).filter good).map tD)) ∧ ∃ x2 x3 x4 x5 x6 x7 x8 x9 x10, env = [some (.ref p), some (cD ax), x2, x3, x4, x5, x6, x7, x8, x9, x10]) ⟨by rw [show codes 0 = [] from rfl, List.map_nil, List.filter_nil, List.append_nil], _, _, _, _, _, _, _, _, _, rfl⟩
      (fun j d env S Z hd ⟨hS, x2, x3, x4, x5, x6, x7, x8, x9, x10, e⟩ hz => ⟨trivial, ?_⟩) (fun env S ⟨hS, x2, x3, x4, x5, x6, x7, x8, x9, x10, e⟩ => ⟨trivial, ?_⟩)⟩
    · subst hS e
      obtain ⟨rfl, hj⟩ := upTo_get hd
      have hj8 : j < 8 := hj
      generalize hc : (0 : Int) + (j : Int) = code
      have c0 : 0 ≤ code := by omega
      have c8 : code < 8 := by omega
      have ec : codes (j + 1) = codes j ++ [code] := by unfold codes; rw [List.range_succ, List.map_append, ← hc]; rfl
      rw [ec] at hz
      simp only [List.map_append, List.map_cons, List.map_nil, List.filter_append] at hz
      simp!
      have b2 : (-(2 : Int) ^ 64 < 2 ∧ (2 : Int) < 2 ^ 64) := by decide
      refine ⟨⟨trivial, by decide⟩, .inl b2, ⟨trivial, by decide⟩, trivial, .inl b2, trivial, .inl b2, szL (by decide), by decide, trivial, ?_⟩
      have hs0 : 1 - 2 * (code / 4) = 1 ∨ 1 - 2 * (code / 4) = -1 := by omega
      have hs1 : 1 - 2 * (code / 2 % 2) = 1 ∨ 1 - 2 * (code / 2 % 2) = -1 := by omega
      have hs2 : 1 - 2 * (code % 2) = 1 ∨ 1 - 2 * (code % 2) = -1 := by omega
      have em : mkT ax code = ((ax.1, 1 - 2 * (code / 4)), (ax.2.1, 1 - 2 * (code / 2 % 2)), (ax.2.2, 1 - 2 * (code % 2))) := rfl
      generalize 1 - 2 * (code / 4) = s0 at hs0 em ⊢
      generalize 1 - 2 * (code / 2 % 2) = s1 at hs1 em ⊢
      generalize 1 - 2 * (code % 2) = s2 at hs2 em ⊢
      refine lc_axes (fun k => .tup [.int (cAt ax k), .int (cAt (s0, s1, s2) k)]) trivial (fun k k0 k3 Q q => ?_) ?_
      · simp!
        refine cD_ix k0 k3 ?_
        simp! [atI_three k0 k3]
        exact ⟨szL (by decide), q⟩
      · have ok0 : POk (ax.1, s0) := ⟨aok.1, hs0⟩
        have ok1 : POk (ax.2.1, s1) := ⟨aok.2.1, hs1⟩
        have ok2 : POk (ax.2.2, s2) := ⟨aok.2.2, hs2⟩
        simp! [z_lcCons, z_lcN, z_lcNil]
        refine ⟨trivial, (ax.1, s0), rfl, ok0, ?_⟩
        simp! [z_lcCons, z_lcN, z_lcNil]
        refine ⟨trivial, (ax.2.1, s1), rfl, ok1, ?_⟩
        simp! [z_lcCons, z_lcN, z_lcNil]
        refine ⟨trivial, (ax.2.2, s2), rfl, ok2, ?_⟩
        simp! [z_lcCons, z_lcN, z_lcNil]
        obtain ⟨p0, q0, r0⟩ := row_bd' _ ok0
        obtain ⟨p1, q1, r1⟩ := row_bd' _ ok1
        obtain ⟨p2, q2, r2⟩ := row_bd' _ ok2
        refine ⟨trivial, trivial, ?_⟩
        simp! [rowD]
        refine ⟨.inl q1, .inl r1, .inl p1, .inl r1, .inl p1, .inl q1, szL (by decide), .inl p0, .inl q0, .inl r0, ?_⟩
        have eg : decide ((rowOf (ax.1, s0)).1 * ((rowOf (ax.2.1, s1)).2.1 * (rowOf (ax.2.2, s2)).2.2 - (rowOf (ax.2.1, s1)).2.2 * (rowOf (ax.2.2, s2)).2.1)
            - (rowOf (ax.1, s0)).2.1 * ((rowOf (ax.2.1, s1)).1 * (rowOf (ax.2.2, s2)).2.2 - (rowOf (ax.2.1, s1)).2.2 * (rowOf (ax.2.2, s2)).1)
            + (rowOf (ax.1, s0)).2.2 * ((rowOf (ax.2.1, s1)).1 * (rowOf (ax.2.2, s2)).2.1 - (rowOf (ax.2.1, s1)).2.1 * (rowOf (ax.2.2, s2)).1) = 1) = good (mkT ax code) := by rw [em]; rfl
        rw [eg]
        have et : D.tup [.tup [.int (cAt ax 0), .int (cAt (s0, s1, s2) 0)], .tup [.int (cAt ax 1), .int (cAt (s0, s1, s2) 1)], .tup [.int (cAt ax 2), .int (cAt (s0, s1, s2) 2)]] = tD (mkT ax code) := by rw [em]; rfl
        rw [et]
        refine zIf_by (fun eg => ?_) (fun eg => ?_)
        · simp!
          have hl : (pre ++ List.filter good (List.map (mkT ax) (codes j))).length ≤ 56 := by
            rw [List.length_append]
            have := List.length_filter_le good (List.map (mkT ax) (codes j))
            rw [List.length_map] at this
            have : (codes j).length = j := by unfold codes; simp
            omega
          refine ⟨by unfold tyD; simp only [put_same], zo_append put_same (szL (by rw [List.length_map]; omega)) ?_⟩
          simp!
          refine hz _ _ ⟨?_, _, _, _, _, _, _, _, _, _, rfl⟩
          rw [List.filter_cons_of_pos eg, List.filter_nil, ← List.append_assoc, List.map_append]
          rfl
        · simp!
          refine hz _ _ ⟨?_, _, _, _, _, _, _, _, _, _, rfl⟩
          rw [List.filter_cons_of_neg (by rw [eg]; decide), List.filter_nil, List.map_nil, List.append_nil, List.map_append]
    · subst hS e
      exact hz _ _ ⟨rfl, _, _, _, _, _, _, _, _, _, _, rfl⟩
  · subst hS e
    have e6 : axs6.take (axs6.map cD).length = axs6 := rfl
    rw [e6]
    simp only [fill_nil, fill_cons, z_raise0, z_try, z_raise, z_raise1, z_xf, z_augS, z_augS1, z_dict0, z_setT, z_setT1, z_setT2, z_zip, z_set0, z_sadd, z_some, z_tt, z_ff, z_var, z_var1, z_c, z_cons, z_cons1, z_cons2, z_nil, z_tup, z_lst, z_lstO, zz_tup, zz_lst, zz_lstO, z_op, z_op1, z_op2, z_un, z_un1, z_test, z_test1, z_tru, z_tru1, z_tru2, truD_bl, truD_int, truD_tup, truD_lst, truD_non, truD_ref, z_and, z_and_t, z_and_f, z_or, z_or_t, z_or_f, z_not, z_not1, z_andV, z_andV_t, z_andV_f, z_orV, z_orV_t, z_orV_f, z_notV, z_notV1, z_ifE, z_ifE_t, z_ifE_f, z_next, z_seq, z_brk, z_cnt, z_drop, z_drop1, z_ret, z_retN, z_ifS, z_if_t, z_if_f, z_set, z_set1, z_asg, z_asg1, z_gName, z_gNil, z_gCons, z_gCons1, z_gTup, z_gSub, z_gSub1, z_gSub_put, z_cb, z_cb1, z_call, z_call1, z_meth, z_meth1, z_meth2, z_chain, z_ch1, z_ch2, z_ch3t, z_ch3f, z_isN, z_isN1, z_noPart, z_part, z_part1, z_sl, z_sl1, z_sl2, z_sl3, slP_tup, slP_lst, slP_ref, z_for, z_for1, z_lc, z_lc1, z_lcE, z_lcO, z_lcO1, z_lcOE, z_yes, z_wSeq, z_wSeq_tup, z_wSeq_lst, z_wStr, z_wStr1, z_rng1, zz_rng1, z_rng2, zz_rng2, z_wipe0, z_wipe1, zo_add, zo_addS, zo_addT, zo_addL, zo_sub, zo_mul, zo_fdiv, zo_mod, zo_pow, zo_neg, zo_cmp, zo_eqI, zo_eqS, zo_eqB, zo_neI, zo_neS, zo_neB, z_ix1, zo_ixT, zo_ixL, zo_ixP, zo_ixS, zo_lenS, zo_lenT, zo_lenL, zo_lenP, zo_abs, zo_int, zo_intB, zo_tupT, zo_tupL, zo_tupP, zo_lstT, zo_lstL, zo_lstOT, zo_lstOL, z_join, z_join1, DL.isNon, z_gUnl, z_lc2, z_lc2s, z_lc2O, z_lc2Os, z_lc2W, z_low, z_read1, z_aug, z_del, z_del1, z_dcS, z_lstRg, z_lstRg1, zo_max2, zo_min2, z_fld, z_setF, z_setF1, z_callM, z_callM1, z_callM2, z_make, z_make1, z_mk, z_deep, slP_str, zo_isB, zo_isNotB, z_enum, z_enum1, List.map_cons, List.map_nil, List.replicate_zero, List.replicate_succ, List.length_cons, List.length_nil, List.cons_append, List.nil_append, List.append_nil, List.getElem?_cons_zero, List.getElem?_cons_succ, List.set_cons_zero, List.set_cons_succ, Nat.reduceSub, Nat.reduceAdd, seqOf_tup, seqOf_lst, lstOf_lst, lstOf_put, seqOf_put, put_same, put_put, Option.map_some, atI_0, atI_1, atI_2, atI_3, atI_4, ixN_0, ixN_1, ixN_2, ixN_4, Nat.reduceLeDiff, Int.reduceEq, Int.reduceLT, Int.reduceLE, decide_true, decide_false, eq_self, if_true, if_false, Bool.false_eq_true, Bool.not_true, Bool.not_false, reduceIte, sortGP]
    exact ⟨turns24_alikes, lows_sub (sub_put Sub.refl hp) q⟩
/-- by a matrix -/
def sp_law_image : DSp := sp2 fun d e S Q _ => ∃ (c : C3) (t : T3), d = cD c ∧ e = tD t ∧ TOk t ∧ Q (cD (imgC t c)) S
theorem sp_len_law_image : ∀ ds S Q E, sp_law_image ds S Q E → ds.length = 2 := sp2_len
theorem row_dot (p : P2) (c : C3) (h : POk p) : (rowOf p).1 * c.1 + (rowOf p).2.1 * c.2.1 + (rowOf p).2.2 * c.2.2 = p.2 * cAt c p.1 := by
  obtain ⟨x, y⟩ := p
  obtain ⟨⟨h0, h1⟩, _⟩ := h
  obtain rfl | rfl | rfl : x = 0 ∨ x = 1 ∨ x = 2 := by simp only at h0 h1; omega
  · simp [rowOf, cAt]
  · simp [rowOf, cAt]
  · simp [rowOf, cAt]
theorem row_bd (p : P2) (h : POk p) : (-(2 ^ 64) < (rowOf p).1 ∧ (rowOf p).1 < 2 ^ 64) ∧ (-(2 ^ 64) < (rowOf p).2.1 ∧ (rowOf p).2.1 < 2 ^ 64) ∧ (-(2 ^ 64) < (rowOf p).2.2 ∧ (rowOf p).2.2 < 2 ^ 64) := by
  obtain ⟨_, h2⟩ := h
  unfold rowOf
  refine ⟨?_, ?_, ?_⟩ <;> (simp only; split <;> omega)
theorem ok_law_image (T : Txt K mg C a fd) (G_law_row_of : DFn P w K mg base 1 (a 30) (fd 30) ["pair"] sp_law_row_of) : DFn P w K mg base 2 (a 32) (fd 32) ["cell", "turn"] sp_law_image := by
  refine dfn_of T.F_law_image sc_law_image sp_len_law_image (fun cdv A outer s B Ed hr hgd => ?_)
  have am : Amb (A.deeper (envOfC "_law_image" (defScope s_law_image) s.heap.objs.size (a 32) cdv)) 1 := ⟨hr, hgd⟩
  refine ⟨_, (dss_cons (ds_set 2 sc_law_image.nd (de_lstO da_nil))
    (dss_cons (ds_for (passes_of rfl) rfl (di_seq (de_var 1)) (dg_name 3 sc_law_image.nd)
    (dss_cons (ds_set 4 sc_law_image.nd (de_call G_law_row_of (am.room.mono (by decide)) am.guards rfl T.g_law_row_of T.F_law_row_of.kp T.b_law_row_of .nil closed_nil dtk_body (da_cons (de_var 3) da_nil)))
    (dss_one (ds_expr (de_append (de_var 2) (da_cons (de_add (de_add (de_mul (de_ix (de_var 4) de_int) (de_ix (de_var 0) de_int)) (de_mul (de_ix (de_var 4) de_int) (de_ix (de_var 0) de_int))) (de_mul (de_ix (de_var 4) de_int) (de_ix (de_var 0) de_int))) da_nil))))))
    (dss_one (ds_ret (de_callTy call_tuple_of cad_tuple rfl T.m_tuple bt_tuple (da_cons (de_var 2) da_nil)))))), ?_⟩
  intro ds Q h
  obtain ⟨_, _, rfl, c, t, rfl, rfl, ⟨h0, h1, h2⟩, q⟩ := sp2_get h
  simp! [tD]
  refine ⟨szL (by decide), fun p hp => ?_⟩
  obtain ⟨b0, b1, b2⟩ : _ ∧ _ ∧ _ := ⟨row_bd _ h0, row_bd _ h1, row_bd _ h2⟩
  simp! [z_forCons, z_forK, z_forNil]
  refine ⟨trivial, t.1, rfl, h0, ?_⟩
  simp! [rowD, cD]
  refine ⟨by unfold tyD; simp only [put_same], .inl b0.1, .inl b0.2.1, .inl b0.2.2, zo_append put_same (szL (by decide)) ?_⟩
  simp! [z_forCons, z_forK, z_forNil]
  refine ⟨trivial, t.2.1, rfl, h1, ?_⟩
  simp! [rowD, cD]
  refine ⟨by unfold tyD; simp only [put_same], .inl b1.1, .inl b1.2.1, .inl b1.2.2, zo_append put_same (szL (by simp)) ?_⟩
  simp! [z_forCons, z_forK, z_forNil]
  refine ⟨trivial, t.2.2, rfl, h2, ?_⟩
  simp! [rowD, cD]
  refine ⟨by unfold tyD; simp only [put_same], .inl b2.1, .inl b2.2.1, .inl b2.2.2, zo_append put_same (szL (by simp)) ?_⟩
  simp! [z_forCons, z_forK, z_forNil]
  refine ⟨trivial, lows_sub (sub_put Sub.refl hp) ?_⟩
  rw [row_dot _ c h0, row_dot _ c h1, row_dot _ c h2]
  exact q
/-- moved to the least coordinates 0, as worked out here -/
def sp_law_shifted : DSp := sp1 fun d S Q _ => ∃ css : List (List C3), (∃ ds, seqOf S d = some ds ∧ AllCells ds css) ∧ css ≠ [] ∧ (∀ cs ∈ css, cs ≠ []) ∧ css.length ≤ 1000 ∧ Q (.lst ((shiftAll css).map fun cs => .tup (cs.map cD))) S
theorem sp_len_law_shifted : ∀ ds S Q E, sp_law_shifted ds S Q E → ds.length = 1 := sp1_len
theorem ok_law_shifted (T : Txt K mg C a fd)  : DFn P w K mg base 1 (a 33) (fd 33) ["lists"] sp_law_shifted := by
  refine dfn_of T.F_law_shifted sc_law_shifted sp_len_law_shifted (fun cdv A outer s B Ed hr hgd => ?_)
  have am : Amb (A.deeper (envOfC "_law_shifted" (defScope s_law_shifted) s.heap.objs.size (a 33) cdv)) 0 := ⟨hr, hgd⟩
  refine ⟨_, (dss_cons (ds_set 1 sc_law_shifted.nd (de_lc rfl sc_law_shifted.nd (di_rng1 rfl T.m_range (da_cons de_int da_nil)) (blkOk_by (own := [("axis", 4)]) (N := N_law_shifted) (sc := (defScope s_law_shifted)) (by decide +kernel))
      (fun _ _ _ _ _ _ => (dgv_name 4 sc_law_shifted.nd)) (fun _ _ _ _ _ _ => dts_nil) (fun _ _ _ _ _ _ => (de_callB (cr_min rfl) cad_min rfl T.m_min bt_min (da_cons (de_lc rfl sc_law_shifted.nd (di_seq (de_var 0)) (blkOk_by (own := [("cells", 3)]) (N := N_law_shifted) (sc := (relS _ (defScope s_law_shifted))) (by decide +kernel))
      (fun _ _ _ _ _ _ => (dgv_name 3 sc_law_shifted.nd)) (fun _ _ _ _ _ _ => dts_nil) (fun _ _ _ _ _ _ => (de_callB (cr_min rfl) cad_min rfl T.m_min bt_min (da_cons (de_lc rfl sc_law_shifted.nd (di_seq (de_var 3)) (blkOk_by (own := [("cell", 5)]) (N := N_law_shifted) (sc := (relS _ (relS _ (defScope s_law_shifted)))) (by decide +kernel))
      (fun _ _ _ _ _ _ => (dgv_name 5 sc_law_shifted.nd)) (fun _ _ _ _ _ _ => dts_nil) (fun _ _ _ _ _ _ => (de_ix (de_var 5) (de_var 4)))) da_nil)))) da_nil)))))
    (dss_cons (ds_set 2 sc_law_shifted.nd (de_lstO da_nil))
    (dss_cons (ds_for (passes_of rfl) rfl (di_seq (de_var 0)) (dg_name 3 sc_law_shifted.nd)
    (dss_one (ds_expr (de_append (de_var 2) (da_cons (de_callB cr_sortA cad_sort rfl T.m_sorted bt_sorted (da_cons (de_lc rfl sc_law_shifted.nd (di_seq (de_var 3)) (blkOk_by (own := [("cell", 5)]) (N := N_law_shifted) (sc := (defScope s_law_shifted)) (by decide +kernel))
      (fun _ _ _ _ _ _ => (dgv_name 5 sc_law_shifted.nd)) (fun _ _ _ _ _ _ => dts_nil) (fun _ _ _ _ _ _ => (de_tup (da_cons (de_sub (de_ix (de_var 5) de_int) (de_ix (de_var 1) de_int)) (da_cons (de_sub (de_ix (de_var 5) de_int) (de_ix (de_var 1) de_int)) (da_cons (de_sub (de_ix (de_var 5) de_int) (de_ix (de_var 1) de_int)) da_nil)))))) da_nil)) da_nil)))))
    (dss_one (ds_ret (de_lc rfl sc_law_shifted.nd (di_seq (de_var 2)) (blkOk_by (own := [("cells", 3)]) (N := N_law_shifted) (sc := (defScope s_law_shifted)) (by decide +kernel))
      (fun _ _ _ _ _ _ => (dgv_name 3 sc_law_shifted.nd)) (fun _ _ _ _ _ _ => dts_nil) (fun _ _ _ _ _ _ => (de_callTy call_tuple_of cad_tuple rfl T.m_tuple bt_tuple (da_cons (de_var 3) da_nil))))))))), ?_⟩
  intro ds Q h
  obtain ⟨d, rfl, css, ⟨es, hd, hes⟩, ne, hne, hl, q⟩ := sp1_get h
  simp!
  refine ⟨by decide, trivial, lc_axes (fun k => .int (cAt (loC css.flatten) k)) trivial (fun k k0 k3 Q q => ?_) ?_⟩
  · simp!
    refine zwSeq_of hd fun ok ho => ?_
    simp!
    refine lc_solids (fun cs => .int (minI (cs.map fun c => cAt c k))) hes ho (fun d cs hcs hd Q q => ?_) ?_
    · simp!
      refine z_wSeq_cells hd ?_
      simp!
      refine lc_cells (fun c => .int (cAt c k)) trivial (fun c hc Q q => ?_) ?_
      · simp!
        exact cD_ix k0 k3 q
      · simp!
        have e : (cs.map fun c => D.int (cAt c k)) = (cs.map fun c => cAt c k).map D.int := by rw [List.map_map]; rfl
        rw [e]
        exact min_ints (fun e => hne cs hcs (List.map_eq_nil_iff.mp e)) q
    · simp!
      have e : (css.map fun cs => D.int (minI (cs.map fun c => cAt c k))) = (css.map fun cs => minI (cs.map fun c => cAt c k)).map D.int := by rw [List.map_map]; rfl
      rw [e]
      refine min_ints (fun e => ne (List.map_eq_nil_iff.mp e)) ?_
      rw [minI_flatten ne hne, ← loC_at _ _ k0 k3]
      exact q
  · generalize hlo : loC css.flatten = lo
    simp!
    refine ⟨szL (by decide), fun p hp => zwSeq_ext hd (sub_put Sub.refl hp) fun ok ho => ?_⟩
    simp!
    refine for_inv (fun k env S => S = put B.S p (.lst ((css.take k).map fun cs => .lst ((csort (cs.map (subC lo))).map cD))) ∧ ∃ t, env = [some d, some (.lst [.int (cAt lo 0), .int (cAt lo 1), .int (cAt lo 2)]), some (.ref p), t, none, none]) ⟨rfl, none, rfl⟩ (fun k d' env S Z hd' ⟨hS, t, e⟩ hz => ?_) (fun env S ⟨hS, t, e⟩ => ?_)
    · subst hS e
      refine ⟨ho _ (sub_put Sub.refl hp), ?_⟩
      obtain ⟨cs, hcs, hdc⟩ := hes.get hd'
      simp!
      refine ⟨by unfold tyD; simp only [put_same], z_wSeq_cells hdc ?_⟩
      simp!
      refine lc_cells (fun c => cD (subC lo c)) trivial (fun c hc Q q => ?_) ?_
      · simp! [cD]
        exact ⟨szL (by decide), q⟩
      · simp!
        have e : (cs.map fun c => cD (subC lo c)) = (cs.map (subC lo)).map cD := by rw [List.map_map]; rfl
        rw [e]
        refine sort_cells cellsD_lst ?_
        simp!
        have hk : k < css.length := (List.getElem?_eq_some_iff.mp hcs).1
        refine zo_append put_same (szL (by rw [List.length_map, List.length_take]; omega)) ?_
        simp!
        refine hz _ _ ⟨?_, _, rfl⟩
        have et : css.take (k + 1) = css.take k ++ [cs] := by rw [List.take_add_one, hcs]; rfl
        rw [et, List.map_append]
        rfl
    · subst hS e
      refine ⟨ho _ (sub_put Sub.refl hp), ?_⟩
      have et : css.take es.length = css := by rw [hes.length, List.take_length]
      rw [et]
      simp!
      refine zwSeq_of seqOf_put fun ok ho => ?_
      simp!
      have hA : AllCells (css.map fun cs => .lst ((csort (cs.map (subC lo))).map cD)) (css.map fun cs => csort (cs.map (subC lo))) := by
        have e := AllCells.lsts (css := css.map fun cs => csort (cs.map (subC lo)))
        rw [List.map_map] at e
        exact e
      refine lc_solids (fun cs => .tup (cs.map cD)) hA ho (fun d cs _ hd Q q => ?_) ?_
      · simp!
        exact tup_do (cellsD_seq hd _) q
      · simp!
        refine lows_sub (sub_put Sub.refl hp) ?_
        have e : shiftAll css = css.map fun cs => csort (cs.map (subC lo)) := by unfold shiftAll; rw [hlo]
        rw [e] at q
        exact q
/-- turned together, as worked out here -/
def sp_law_turned : DSp := sp2 fun d e S Q _ => ∃ (css : List (List C3)) (t : T3), (∃ ds, seqOf S d = some ds ∧ AllCells ds css) ∧ e = tD t ∧ TOk t ∧ css ≠ [] ∧ (∀ cs ∈ css, cs ≠ []) ∧ css.length ≤ 1000 ∧ Q (.lst ((turnAll t css).map fun cs => .tup (cs.map cD))) S
theorem sp_len_law_turned : ∀ ds S Q E, sp_law_turned ds S Q E → ds.length = 2 := sp2_len
theorem ok_law_turned (T : Txt K mg C a fd) (G_law_image : DFn P w K mg base 2 (a 32) (fd 32) ["cell", "turn"] sp_law_image) (G_law_shifted : DFn P w K mg base 1 (a 33) (fd 33) ["lists"] sp_law_shifted) : DFn P w K mg base 3 (a 34) (fd 34) ["lists", "turn"] sp_law_turned := by
  refine dfn_of T.F_law_turned sc_law_turned sp_len_law_turned (fun cdv A outer s B Ed hr hgd => ?_)
  have am : Amb (A.deeper (envOfC "_law_turned" (defScope s_law_turned) s.heap.objs.size (a 34) cdv)) 2 := ⟨hr, hgd⟩
  refine ⟨_, (dss_cons (ds_set 2 sc_law_turned.nd (de_lstO da_nil))
    (dss_cons (ds_for (passes_of rfl) rfl (di_seq (de_var 0)) (dg_name 3 sc_law_turned.nd)
    (dss_one (ds_expr (de_append (de_var 2) (da_cons (de_lc rfl sc_law_turned.nd (di_seq (de_var 3)) (blkOk_by (own := [("cell", 4)]) (N := N_law_turned) (sc := (defScope s_law_turned)) (by decide +kernel))
      (fun _ _ _ _ _ _ => (dgv_name 4 sc_law_turned.nd)) (fun _ _ _ _ _ _ => dts_nil) (fun _ _ _ _ _ _ => (de_call G_law_image (am.room.mono (by decide)) am.guards rfl T.g_law_image T.F_law_image.kp T.b_law_image .nil closed_nil dtk0 (da_cons (de_var 4) (da_cons (de_var 1) da_nil))))) da_nil)))))
    (dss_one (ds_ret (de_call G_law_shifted (am.room.mono (by decide)) am.guards rfl T.g_law_shifted T.F_law_shifted.kp T.b_law_shifted .nil closed_nil dtk_body (da_cons (de_var 2) da_nil)))))), ?_⟩
  intro ds Q h
  obtain ⟨d, _, rfl, css, t, ⟨es, hd, hes⟩, rfl, ht, ne, hne, hl, q⟩ := sp2_get h
  simp!
  refine ⟨szL (by decide), fun p hp => zwSeq_ext hd (sub_put Sub.refl hp) fun ok ho => ?_⟩
  simp!
  refine for_inv (fun k env S => S = put B.S p (.lst ((css.take k).map fun cs => .lst ((cs.map (imgC t)).map cD))) ∧ ∃ x, env = [some d, some (tD t), some (.ref p), x, none]) ⟨rfl, none, rfl⟩ (fun k d' env S Z hd' ⟨hS, x, e⟩ hz => ?_) (fun env S ⟨hS, x, e⟩ => ?_)
  · subst hS e
    refine ⟨ho _ (sub_put Sub.refl hp), ?_⟩
    obtain ⟨cs, hcs, hdc⟩ := hes.get hd'
    simp!
    refine ⟨by unfold tyD; simp only [put_same], z_wSeq_cells hdc ?_⟩
    simp!
    refine lc_cells (fun c => cD (imgC t c)) trivial (fun c hc Q q => ?_) ?_
    · simp!
      exact ⟨c, t, rfl, rfl, ht, q⟩
    · simp!
      have hk : k < css.length := (List.getElem?_eq_some_iff.mp hcs).1
      refine zo_append put_same (szL (by rw [List.length_map, List.length_take]; omega)) ?_
      simp!
      refine hz _ _ ⟨?_, _, rfl⟩
      have et : css.take (k + 1) = css.take k ++ [cs] := by rw [List.take_add_one, hcs]; rfl
      rw [et, List.map_append, List.map_cons, List.map_nil, List.map_map]
      rfl
  · subst hS e
    refine ⟨ho _ (sub_put Sub.refl hp), ?_⟩
    have et : css.take es.length = css := by rw [hes.length, List.take_length]
    rw [et]
    simp!
    have hA : AllCells (css.map fun cs => .lst ((cs.map (imgC t)).map cD)) (css.map fun cs => cs.map (imgC t)) := by
      have e := AllCells.lsts (css := css.map fun cs => cs.map (imgC t))
      rw [List.map_map] at e
      exact e
    refine ⟨_, ⟨_, seqOf_put, hA⟩, fun e => ne (List.map_eq_nil_iff.mp e), fun cs hcs => ?_, by rw [List.length_map]; exact hl, ?_⟩
    · obtain ⟨c, hc, rfl⟩ := List.mem_map.mp hcs
      exact fun e => hne c hc (List.map_eq_nil_iff.mp e)
    · exact lows_sub (sub_put Sub.refl hp) q
/-- _law_mixed: the same items in another order -/
def sp_law_mixed : DSp := sp2 fun d e S Q _ => ∃ (a : Addr) (cs : List D), d = .ref a ∧ seqOf S e = some cs ∧ Deck S a ∧ cs.length ≤ 1000 ∧ ∀ (cs' : List D) S', cs'.Perm cs → DSt S a S' → Q (.lst cs') S'
theorem sp_len_law_mixed : ∀ ds S Q E, sp_law_mixed ds S Q E → ds.length = 2 := sp2_len
theorem lst_items {d : D} {cs : List D} {S : Sto} {Q : DQ} (h : seqOf S d = some cs) (q : ∀ p, S p = none → Q (.ref p) (put S p (.lst cs))) : listOP [d] S Q := by
  unfold listOP
  simp only [h]
  exact q
theorem len_items {d : D} {cs : List D} {S : Sto} {Q : DQ} (h : seqOf S d = some cs) (q : Q (.int cs.length) S) : lenP [d] S Q := by
  unfold lenP
  cases d with
  | str z => cases h
  | _ => simp only [h]; exact q
theorem erase_perm {α : Type} : ∀ {l : List α} {i : Nat} {c : α}, l[i]? = some c → (c :: l.eraseIdx i).Perm l
  | [], _, _, h => by cases h
  | x :: l, 0, c, h => by cases h; exact List.Perm.refl _
  | x :: l, i + 1, c, h => by
    simp only [List.eraseIdx_cons_succ]
    exact (List.Perm.swap _ _ _).trans ((erase_perm (l := l) (i := i) h).cons x)
theorem ok_law_mixed (T : Txt K mg C a fd) (G_law_draw : DFn P w K mg base 1 (a 25) (fd 25) ["deck", "bound"] sp_law_draw) : DFn P w K mg base 2 (a 35) (fd 35) ["deck", "row"] sp_law_mixed := by
  refine dfn_of T.F_law_mixed sc_law_mixed sp_len_law_mixed (fun cdv A outer s B Ed hr hgd => ?_)
  have am : Amb (A.deeper (envOfC "_law_mixed" (defScope s_law_mixed) s.heap.objs.size (a 35) cdv)) 1 := ⟨hr, hgd⟩
  refine ⟨_, (dss_cons (ds_set 2 sc_law_mixed.nd (de_callTy call_list_of cad_listO rfl T.m_list bt_list (da_cons (de_var 1) da_nil)))
    (dss_one (ds_ret (de_lc rfl sc_law_mixed.nd (di_rng1 rfl T.m_range (da_cons (de_callB call_len cad_len rfl T.m_len bt_len (da_cons (de_var 1) da_nil)) da_nil)) (blkOk_by (own := [("k", 3)]) (N := N_law_mixed) (sc := (defScope s_law_mixed)) (by decide +kernel))
      (fun _ _ _ _ _ _ => (dgv_name 3 sc_law_mixed.nd)) (fun _ _ _ _ _ _ => dts_nil) (fun _ _ _ _ _ _ => (de_popAt (de_var 2) (da_cons (de_call G_law_draw (am.room.mono (by decide)) am.guards rfl T.g_law_draw T.F_law_draw.kp T.b_law_draw .nil closed_nil dtk0 (da_cons (de_var 0) (da_cons (de_callB call_len cad_len rfl T.m_len bt_len (da_cons (de_var 2) da_nil)) da_nil))) da_nil))))))), ?_⟩
  intro ds Q h
  obtain ⟨_, e, rfl, a, cs, rfl, hd, hD, hl, q⟩ := sp2_get h
  simp!
  refine lst_items hd fun p hp => ?_
  have pa : p ≠ a := hD.ne hp
  simp!
  refine len_items (seqOf_sub hd (sub_put Sub.refl hp)) ?_
  simp!
  refine ⟨by omega, by omega, lc_inv (fun k acc S => DSt B.S a S ∧ ∃ cs1 cs2 : List D, acc = cs1 ∧ S p = some (.lst cs2) ∧ cs1.length = k ∧ (cs1 ++ cs2).Perm cs) ⟨(DSt.refl hD).put hp pa, [], cs, rfl, put_same, rfl, List.Perm.refl _⟩ (fun k d acc S Z hd ⟨D1, cs1, cs2, e1, hS, hl1, pm⟩ hz => ⟨trivial, ?_⟩) (fun acc S ⟨D1, cs1, cs2, e1, hS, hl1, pm⟩ => ⟨trivial, ?_⟩)⟩
  · obtain ⟨rfl, hk⟩ := upTo_get hd
    simp!
    have hc2 : cs2.length = cs.length - k := by have := pm.length_eq; rw [List.length_append] at this; omega
    have hk2 : k < cs.length := by simpa using hk
    refine ⟨by unfold tyD; simp only [hS], zo_lenR hS ?_⟩
    simp!
    refine draw_do D1.deck ⟨by omega, by omega⟩ fun v S2 v0 v1 D2 => ?_
    have hS2 := D2.keep p _ pa hS
    simp!
    obtain ⟨c, hc⟩ : ∃ c, cs2[v.toNat]? = some c := ⟨cs2[v.toNat]'(by omega), List.getElem?_eq_getElem (by omega)⟩
    refine popAt_do hS2 v0 (by omega) (d := c) hc ?_
    refine hz _ _ ⟨(D1.trans D2).put hp pa, cs1 ++ [c], cs2.eraseIdx v.toNat, by rw [e1], put_same, by rw [List.length_append, hl1]; rfl, ?_⟩
    rw [List.append_assoc]
    exact ((erase_perm hc).append_left cs1).trans pm
  · simp!
    rw [DL.upTo_len] at hl1
    have : cs2 = [] := by
      have := pm.length_eq; rw [List.length_append] at this
      exact List.length_eq_zero_iff.mp (by omega)
    subst this
    rw [e1]
    exact lows_same (q cs1 _ (by simpa using pm) D1)
/-- cells moved -/
def sp_law_moved : DSp := sp2 fun d e S Q _ => ∃ (cs : List C3) (o : C3), cellsD d cs ∧ seqOf S e = some [.int o.1, .int o.2.1, .int o.2.2] ∧ Q (slD (cs.map (addC o))) S
theorem sp_len_law_moved : ∀ ds S Q E, sp_law_moved ds S Q E → ds.length = 2 := sp2_len
theorem ok_law_moved (T : Txt K mg C a fd)  : DFn P w K mg base 1 (a 36) (fd 36) ["cells", "offset"] sp_law_moved := by
  refine dfn_of T.F_law_moved sc_law_moved sp_len_law_moved (fun cdv A outer s B Ed hr hgd => ?_)
  have am : Amb (A.deeper (envOfC "_law_moved" (defScope s_law_moved) s.heap.objs.size (a 36) cdv)) 0 := ⟨hr, hgd⟩
  refine ⟨_, (dss_one (ds_ret (de_callTy call_tuple_of cad_tuple rfl T.m_tuple bt_tuple (da_cons (de_lc rfl sc_law_moved.nd (di_seq (de_var 0)) (blkOk_by (own := [("cell", 2)]) (N := N_law_moved) (sc := (defScope s_law_moved)) (by decide +kernel))
      (fun _ _ _ _ _ _ => (dgv_name 2 sc_law_moved.nd)) (fun _ _ _ _ _ _ => dts_nil) (fun _ _ _ _ _ _ => (de_tup (da_cons (de_add (de_ix (de_var 2) de_int) (de_ix (de_var 1) de_int)) (da_cons (de_add (de_ix (de_var 2) de_int) (de_ix (de_var 1) de_int)) (da_cons (de_add (de_ix (de_var 2) de_int) (de_ix (de_var 1) de_int)) da_nil)))))) da_nil)))), ?_⟩
  intro ds Q h
  obtain ⟨d, e, rfl, cs, o, hd, he, q⟩ := sp2_get h
  have i0 : ∀ (S : Sto) (Q : DQ), S = B.S → Q (.int o.1) S → ixP e (.int 0) S Q := fun S Q e1 q => by
    subst e1; unfold ixP
    cases e with
    | str z => cases he
    | _ => simp only [he, atI_0]; exact q
  have i1 : ∀ (S : Sto) (Q : DQ), S = B.S → Q (.int o.2.1) S → ixP e (.int 1) S Q := fun S Q e1 q => by
    subst e1; unfold ixP
    cases e with
    | str z => cases he
    | _ => simp only [he, atI_1]; exact q
  have i2 : ∀ (S : Sto) (Q : DQ), S = B.S → Q (.int o.2.2) S → ixP e (.int 2) S Q := fun S Q e1 q => by
    subst e1; unfold ixP
    cases e with
    | str z => cases he
    | _ => simp only [he, atI_2]; exact q
  dsimp!
  refine z_wSeq_cells hd ?_
  dsimp!
  refine lc_cells (fun c => cD (addC o c)) trivial (fun c _ Q q => ?_) ?_
  · dsimp!
    refine cD_ix (by decide) (by decide) ?_
    dsimp!
    refine i0 _ _ rfl ?_
    dsimp!
    refine cD_ix (by decide) (by decide) ?_
    dsimp!
    refine i1 _ _ rfl ?_
    dsimp!
    refine cD_ix (by decide) (by decide) ?_
    dsimp!
    refine i2 _ _ rfl ?_
    dsimp!
    exact q
  · dsimp!
    have e1 : (cs.map fun c => cD (addC o c)) = (cs.map (addC o)).map cD := by rw [List.map_map]; rfl
    rw [e1]
    exact lows_same q
/-- solids wherever they lie -/
structure RawL (n m : Int) (css : List (List C3)) : Prop where
  len : (css.length : Int) = n
  each : ∀ cs ∈ css, cs ≠ [] ∧ cs.length ≤ 40 ∧ cs.Nodup ∧ Conn cs
  ap : css.Pairwise fun a b => ∀ c ∈ a, c ∉ b
  span : ∀ a ∈ css, ∀ b ∈ css, ∀ c ∈ a, ∀ d ∈ b, ∀ k, cAt c k - cAt d k ≤ m
theorem dist_img : ∀ t ∈ tns, ∀ a b : C3, DL.dist (imgC t a) (imgC t b) = DL.dist a b := by
  intro t ht a b
  obtain ⟨x, y, z⟩ := a
  obtain ⟨u, v, w⟩ := b
  simp only [tns, List.mem_cons, List.not_mem_nil, or_false] at ht
  rcases ht with rfl | rfl | rfl | rfl | rfl | rfl | rfl | rfl | rfl | rfl | rfl | rfl | rfl | rfl | rfl | rfl | rfl | rfl | rfl | rfl | rfl | rfl | rfl | rfl <;> simp [imgC, cAt, DL.dist] <;> omega
theorem iso_img {t : T3} (ht : t ∈ tns) : Iso3 (imgC t) := ⟨dist_img t ht, fun a b e => by
  have h := dist_img t ht a b
  rw [e] at h
  obtain ⟨x, y, z⟩ := a
  obtain ⟨u, v, w⟩ := b
  simp only [DL.dist, Prod.mk.injEq] at h ⊢
  omega⟩
theorem span_box {l : List C3} (h : ∀ k, 0 ≤ k → k < 3 → ∀ a ∈ l, ∀ b ∈ l, cAt a k - cAt b k ≤ 15) {c : C3} (hc : c ∈ l) : inBox (subC (loC l) c) := by
  have g : ∀ k, 0 ≤ k → k < 3 → 0 ≤ cAt c k - cAt (loC l) k ∧ cAt c k - cAt (loC l) k ≤ 15 := fun k k0 k3 => by
    rw [loC_at _ k k0 k3]
    have ne : l.map (fun c => cAt c k) ≠ [] := fun e => by rw [List.map_eq_nil_iff.mp e] at hc; cases hc
    obtain ⟨m1, m2⟩ := minI_spec ne
    obtain ⟨b, hb, e⟩ := List.mem_map.mp m1
    have := m2 _ (List.mem_map.mpr ⟨c, hc, rfl⟩)
    have h2 := h k k0 k3 c hc b hb
    rw [e] at h2
    omega
  exact ⟨g 0 (by decide) (by decide), g 1 (by decide) (by decide), g 2 (by decide) (by decide)⟩
theorem raw_span {t : T3} (ht : TOk t) {a b : C3} {m : Int} (h : ∀ k, cAt a k - cAt b k ≤ m ∧ cAt b k - cAt a k ≤ m) (k : Int) : cAt (imgC t a) k - cAt (imgC t b) k ≤ m := by
  have g : ∀ p : P2, POk p → p.2 * cAt a p.1 - p.2 * cAt b p.1 ≤ m := fun p hp => by
    have h1 := h p.1
    rcases hp.2 with e | e <;> rw [e] <;> omega
  have g1 := g t.1 ht.1
  have g2 := g t.2.1 ht.2.1
  have g3 := g t.2.2 ht.2.2
  unfold cAt imgC
  split
  · exact g1
  · split
    · exact g2
    · exact g3
theorem raw_solid {f : C3 → C3} (h : Iso3 f) {cs : List C3} (s : cs ≠ [] ∧ cs.length ≤ 40 ∧ cs.Nodup ∧ Conn cs) (hb : ∀ c ∈ cs, inBox (f c)) : SolidC (csort (cs.map f)) := by
  have p := csort_perm (cs.map f)
  refine ⟨fun e => s.1 ?_, by rw [p.length_eq, List.length_map]; exact s.2.1, fun c hc => ?_, csort_asc (h.nd s.2.2.1), conn_perm p.symm (h.conn s.2.2.2)⟩
  · rw [e] at p
    exact List.map_eq_nil_iff.mp p.symm.eq_nil
  · obtain ⟨x, hx, rfl⟩ := List.mem_map.mp (p.mem_iff.mp hc)
    exact hb x hx
theorem RawL.iso {n m : Int} {css : List (List C3)} (r : RawL n m css) {f : C3 → C3} (h : Iso3 f) (hs : ∀ c d, (∀ k, cAt c k - cAt d k ≤ m ∧ cAt d k - cAt c k ≤ m) → ∀ k, cAt (f c) k - cAt (f d) k ≤ m) : RawL n m (css.map fun cs => cs.map f) := by
  refine ⟨by rw [List.length_map]; exact r.len, fun cs hcs => ?_, List.pairwise_map.mpr (r.ap.imp fun {a b} hab c hc hc2 => ?_), fun a ha b hb c hc d hd => ?_⟩
  · obtain ⟨es, hes, rfl⟩ := List.mem_map.mp hcs
    obtain ⟨h1, h2, h3, h4⟩ := r.each es hes
    exact ⟨fun e => h1 (List.map_eq_nil_iff.mp e), by rw [List.length_map]; exact h2, h.nd h3, h.conn h4⟩
  · obtain ⟨x, hx, e1⟩ := List.mem_map.mp hc
    obtain ⟨y, hy, e2⟩ := List.mem_map.mp hc2
    obtain rfl := h.inj x y (e1.trans e2.symm)
    exact hab x hx hy
  · obtain ⟨a', ha', rfl⟩ := List.mem_map.mp ha
    obtain ⟨b', hb', rfl⟩ := List.mem_map.mp hb
    obtain ⟨x, hx, rfl⟩ := List.mem_map.mp hc
    obtain ⟨y, hy, rfl⟩ := List.mem_map.mp hd
    exact hs x y fun k => ⟨r.span a' ha' b' hb' x hx y hy k, r.span b' hb' a' ha' y hy x hx k⟩
theorem RawL.mono {n m m' : Int} {css : List (List C3)} (r : RawL n m css) (h : m ≤ m') : RawL n m' css := ⟨r.len, r.each, r.ap, fun a ha b hb c hc d hd k => Int.le_trans (r.span a ha b hb c hc d hd k) h⟩
/-- .. turned and moved into the box: an assembly -/
theorem asm_raw {n : Int} {css : List (List C3)} {t : T3} {o : C3} {ss : List Str} (ht : t ∈ tns) (r : RawL n 15 css) (n1 : 1 ≤ n) (n6 : n ≤ 6) (h0 : ∀ k, 0 ≤ k → k < 3 → 0 ≤ cAt o k ∧ cAt o k + mxA (turnAll t css) k ≤ 15) (hl : (ss.length : Int) = n) (hn : ∀ s ∈ ss, isName (.str s) = true) (nd : ss.Nodup) :
    AsmOk (ss.zip ((turnAll t css).map fun cs => cs.map (addC o))) := by
  have iso0 : Iso3 fun c => subC (loC (css.map fun cs => cs.map (imgC t)).flatten) (imgC t c) := (iso_img ht).comp (iso_sub _)
  have iso : Iso3 fun c => addC o (subC (loC (css.map fun cs => cs.map (imgC t)).flatten) (imgC t c)) := iso0.comp (iso_add o)
  have eT : turnAll t css = css.map fun cs => csort (cs.map fun c => subC (loC (css.map fun cs => cs.map (imgC t)).flatten) (imgC t c)) := by
    unfold turnAll shiftAll
    rw [List.map_map]
    refine List.map_congr_left fun cs _ => ?_
    show csort ((cs.map (imgC t)).map _) = _
    rw [List.map_map]; rfl
  have hbx0 : ∀ cs ∈ css, ∀ c ∈ cs, inBox (subC (loC (css.map fun cs => cs.map (imgC t)).flatten) (imgC t c)) := fun cs hcs c hc => by
    refine span_box (fun k k0 k3 x hx y hy => ?_) (List.mem_flatten.mpr ⟨_, List.mem_map.mpr ⟨cs, hcs, rfl⟩, List.mem_map.mpr ⟨c, hc, rfl⟩⟩)
    have get : ∀ x ∈ (css.map fun cs => cs.map (imgC t)).flatten, ∃ es ∈ css, ∃ c ∈ es, imgC t c = x := fun x hx => by
      obtain ⟨l, hl, hxl⟩ := List.mem_flatten.mp hx
      obtain ⟨es, hes, rfl⟩ := List.mem_map.mp hl
      obtain ⟨c, hc, rfl⟩ := List.mem_map.mp hxl
      exact ⟨es, hes, c, hc, rfl⟩
    obtain ⟨e1, he1, c1, b1, rfl⟩ := get x hx
    obtain ⟨e2, he2, c2, b2, rfl⟩ := get y hy
    exact raw_span (tns_ok t ht) (fun k => ⟨r.span e1 he1 e2 he2 c1 b1 c2 b2 k, r.span e2 he2 e1 he1 c2 b2 c1 b1 k⟩) k
  have hi : ∀ k, ∀ cs ∈ css, ∀ c ∈ cs, cAt (subC (loC (css.map fun cs => cs.map (imgC t)).flatten) (imgC t c)) k ≤ mxA (turnAll t css) k := fun k cs h c hc => by
    rw [eT]
    exact le_mxA (cs := csort (cs.map fun c => subC (loC (css.map fun cs => cs.map (imgC t)).flatten) (imgC t c))) (List.mem_map.mpr ⟨cs, h, rfl⟩) ((csort_perm _).mem_iff.mpr (List.mem_map.mpr ⟨c, hc, rfl⟩))
  have hbx : ∀ cs ∈ css, ∀ c ∈ cs, inBox (addC o (subC (loC (css.map fun cs => cs.map (imgC t)).flatten) (imgC t c))) := fun cs hcs c hc => by
    have b := hbx0 cs hcs c hc
    have g : ∀ k, 0 ≤ k → k < 3 → cAt (subC (loC (css.map fun cs => cs.map (imgC t)).flatten) (imgC t c)) k + cAt o k ≤ 15 := fun k k0 k3 => by
      have := hi k cs hcs c hc
      have := (h0 k k0 k3).2
      omega
    have z0 := (h0 0 (by decide) (by decide)).1
    have z1 := (h0 1 (by decide) (by decide)).1
    have z2 := (h0 2 (by decide) (by decide)).1
    have g0 := g 0 (by decide) (by decide)
    have g1 := g 1 (by decide) (by decide)
    have g2 := g 2 (by decide) (by decide)
    generalize subC (loC (css.map fun cs => cs.map (imgC t)).flatten) (imgC t c) = x at b g0 g1 g2 ⊢
    obtain ⟨⟨b0, b1⟩, ⟨b2, b3⟩, b4, b5⟩ := b
    have c0 : ∀ c : C3, cAt c 0 = c.1 := fun _ => rfl
    have c1 : ∀ c : C3, cAt c 1 = c.2.1 := fun _ => rfl
    have c2 : ∀ c : C3, cAt c 2 = c.2.2 := fun _ => rfl
    rw [c0] at z0
    rw [c1] at z1
    rw [c2] at z2
    rw [c0, c0] at g0
    rw [c1, c1] at g1
    rw [c2, c2] at g2
    exact ⟨⟨by show 0 ≤ x.1 + o.1; omega, g0⟩, ⟨by show 0 ≤ x.2.1 + o.2.1; omega, g1⟩, by show 0 ≤ x.2.2 + o.2.2; omega, g2⟩
  have eM : ((turnAll t css).map fun cs => cs.map (addC o)) = css.map fun cs => csort (cs.map fun c => addC o (subC (loC (css.map fun cs => cs.map (imgC t)).flatten) (imgC t c))) := by
    rw [eT, List.map_map]
    refine List.map_congr_left fun cs hcs => ?_
    show (csort (cs.map _)).map (addC o) = _
    rw [add_sort (iso0.nd (r.each cs hcs).2.2.1), List.map_map]; rfl
  rw [eM]
  have ll : ss.length = css.length := by have := r.len; omega
  have l1 : (ss.zip (css.map fun cs => csort (cs.map fun c => addC o (subC (loC (css.map fun cs => cs.map (imgC t)).flatten) (imgC t c))))).map (·.1) = ss := List.map_fst_zip (by rw [List.length_map]; omega)
  have l2 : (ss.zip (css.map fun cs => csort (cs.map fun c => addC o (subC (loC (css.map fun cs => cs.map (imgC t)).flatten) (imgC t c))))).map (·.2) = css.map fun cs => csort (cs.map fun c => addC o (subC (loC (css.map fun cs => cs.map (imgC t)).flatten) (imgC t c))) := List.map_snd_zip (by rw [List.length_map]; omega)
  have l3 : (ss.zip (css.map fun cs => csort (cs.map fun c => addC o (subC (loC (css.map fun cs => cs.map (imgC t)).flatten) (imgC t c))))).length = ss.length := by rw [List.length_zip, List.length_map]; omega
  refine ⟨fun e => ?_, by have := r.len; omega, fun p hp => ?_, by rw [l1]; exact nd, ?_⟩
  · rw [e, List.length_nil] at l3
    omega
  · obtain ⟨h1, h2⟩ := List.of_mem_zip (show (p.1, p.2) ∈ _ from hp)
    obtain ⟨cs, hcs, e⟩ := List.mem_map.mp h2
    refine ⟨hn _ h1, ?_⟩
    rw [← e]
    exact raw_solid iso (r.each cs hcs) (hbx cs hcs)
  · have key : ((ss.zip (css.map fun cs => csort (cs.map fun c => addC o (subC (loC (css.map fun cs => cs.map (imgC t)).flatten) (imgC t c))))).map (·.2)).Pairwise fun a b : List C3 => ∀ c ∈ b, c ∉ a := by
      rw [l2]
      refine List.pairwise_map.mpr (r.ap.imp fun {a b} hab c hc hc2 => ?_)
      obtain ⟨x, hx, e1⟩ := List.mem_map.mp ((csort_perm _).mem_iff.mp hc)
      obtain ⟨y, hy, e2⟩ := List.mem_map.mp ((csort_perm _).mem_iff.mp hc2)
      obtain rfl := iso.inj x y (e1.trans e2.symm)
      exact hab x hy hx
    exact List.pairwise_map.mp key
def sp_law_copy : DSp := sp3 fun d e f S Q _ => ∃ (a : Addr) (ps : List Piece), d = .ref a ∧ e = .lst (ps.map pcD) ∧ f = .lst (tns.map tD) ∧ AsmOk ps ∧ (∀ p ∈ ps, ∀ q ∈ ps, ∀ c ∈ p.2, ∀ d ∈ q.2, ∀ k, cAt c k - cAt d k ≤ 3) ∧ Deck S a ∧ ∀ (qs : List Piece) S', AsmOk qs → DSt S a S' → Q (.lst (qs.map pcD)) S'
theorem sp_len_law_copy : ∀ ds S Q E, sp_law_copy ds S Q E → ds.length = 3 := sp3_len
theorem seq_keep {S S' : Sto} {a : Addr} {d : D} {ds : List D} (h : DSt S a S') (n : ∀ q, d = .ref q → q ≠ a) (e : seqOf S d = some ds) : seqOf S' d = some ds := by
  cases d with
  | ref q =>
    have e : lstOf S (.ref q) = some ds := e
    unfold lstOf at e
    cases hq : S q with
    | none => simp [hq] at e
    | some o =>
      cases o with
      | lst xs =>
        simp [hq] at e
        subst e
        exact seqOf_ref (h.keep q _ (n q rfl) hq)
      | _ => simp [hq] at e
  | _ => exact e
def mir (c : C3) : C3 := (-c.1, c.2.1, c.2.2)
theorem iso_mir : Iso3 mir := ⟨fun a b => by unfold DL.dist mir; dsimp only; omega, fun a b e => by
  obtain ⟨x, y, z⟩ := a
  obtain ⟨u, v, w⟩ := b
  simp only [mir, Prod.mk.injEq] at e ⊢
  omega⟩
theorem ok_law_copy (T : Txt K mg C a fd) (G_law_draw : DFn P w K mg base 1 (a 25) (fd 25) ["deck", "bound"] sp_law_draw) (G_law_few : DFn P w K mg base 3 (a 29) (fd 29) ["deck"] sp_law_few) (G_law_mixed : DFn P w K mg base 2 (a 35) (fd 35) ["deck", "row"] sp_law_mixed) (G_law_moved : DFn P w K mg base 1 (a 36) (fd 36) ["cells", "offset"] sp_law_moved) (G_law_names : DFn P w K mg base 2 (a 27) (fd 27) ["deck", "count"] sp_law_names) (G_law_turned : DFn P w K mg base 3 (a 34) (fd 34) ["lists", "turn"] sp_law_turned) : DFn P w K mg base 4 (a 37) (fd 37) ["deck", "pieces", "turns"] sp_law_copy := by
  refine dfn_of T.F_law_copy sc_law_copy sp_len_law_copy (fun cdv A outer s B Ed hr hgd => ?_)
  have am : Amb (A.deeper (envOfC "_law_copy" (defScope s_law_copy) s.heap.objs.size (a 37) cdv)) 3 := ⟨hr, hgd⟩
  refine ⟨_, (dss_cons (ds_set 3 sc_law_copy.nd (de_call G_law_draw (am.room.mono (by decide)) am.guards rfl T.g_law_draw T.F_law_draw.kp T.b_law_draw .nil closed_nil dtk_body (da_cons (de_var 0) (da_cons de_int da_nil))))
    (dss_cons (ds_if (dt_cmp1 (cd_eq am) (de_var 3) de_int)
    (dss_one (ds_ret (de_call G_law_few (am.room.mono (by decide)) am.guards rfl T.g_law_few T.F_law_few.kp T.b_law_few .nil closed_nil dtk_body (da_cons (de_var 0) da_nil))))
    dss_nil)
    (dss_cons (ds_set 4 sc_law_copy.nd (de_lc rfl sc_law_copy.nd (di_seq (de_var 1)) (blkOk_by (own := [("piece", 12)]) (N := N_law_copy) (sc := (defScope s_law_copy)) (by decide +kernel))
      (fun _ _ _ _ _ _ => (dgv_name 12 sc_law_copy.nd)) (fun _ _ _ _ _ _ => dts_nil) (fun _ _ _ _ _ _ => (de_ix (de_var 12) de_int))))
    (dss_cut (ds_if (dt_cmp1 cd_lt (de_var 3) de_int)
    (dss_cons (ds_set 8 sc_law_copy.nd (de_lstO da_nil))
    (dss_cons (ds_for (passes_of rfl) rfl (di_seq (de_var 4)) (dg_name 9 sc_law_copy.nd)
    (dss_one (ds_expr (de_append (de_var 8) (da_cons (de_lc rfl sc_law_copy.nd (di_seq (de_var 9)) (blkOk_by (own := [("cell", 15)]) (N := N_law_copy) (sc := (defScope s_law_copy)) (by decide +kernel))
      (fun _ _ _ _ _ _ => (dgv_name 15 sc_law_copy.nd)) (fun _ _ _ _ _ _ => dts_nil) (fun _ _ _ _ _ _ => (de_tup (da_cons (de_neg (de_ix (de_var 15) de_int)) (da_cons (de_ix (de_var 15) de_int) (da_cons (de_ix (de_var 15) de_int) da_nil)))))) da_nil)))))
    (dss_one (ds_set 4 sc_law_copy.nd (de_var 8)))))
    dss_nil)
    (dss_cut (ds_if (dt_cmp1 (cd_eq am) (de_var 3) de_int)
    (dss_cons (ds_set 10 sc_law_copy.nd (de_call G_law_draw (am.room.mono (by decide)) am.guards rfl T.g_law_draw T.F_law_draw.kp T.b_law_draw .nil closed_nil dtk_body (da_cons (de_var 0) (da_cons (de_callB call_len cad_len rfl T.m_len bt_len (da_cons (de_var 4) da_nil)) da_nil))))
    (dss_cons (ds_set 11 sc_law_copy.nd (de_ix (de_lst (da_cons (de_tup (da_cons de_int (da_cons de_int (da_cons de_int da_nil)))) (da_cons (de_tup (da_cons de_int (da_cons de_int (da_cons de_int da_nil)))) (da_cons (de_tup (da_cons de_int (da_cons de_int (da_cons (de_neg de_int) da_nil)))) da_nil)))) (de_call G_law_draw (am.room.mono (by decide)) am.guards rfl T.g_law_draw T.F_law_draw.kp T.b_law_draw .nil closed_nil dtk_body (da_cons (de_var 0) (da_cons de_int da_nil)))))
    (dss_one (ds_set 4 sc_law_copy.nd (de_add (de_add (de_slice (de_var 4) do_none (do_some (de_var 10))) (de_lst (da_cons (de_call G_law_moved (am.room.mono (by decide)) am.guards rfl T.g_law_moved T.F_law_moved.kp T.b_law_moved .nil closed_nil dtk_body (da_cons (de_ix (de_var 4) (de_var 10)) (da_cons (de_var 11) da_nil))) da_nil))) (de_slice (de_var 4) (do_some (de_add (de_var 10) de_int)) do_none))))))
    dss_nil)
    (dss_cons (ds_set 4 sc_law_copy.nd (de_call G_law_turned (am.room.mono (by decide)) am.guards rfl T.g_law_turned T.F_law_turned.kp T.b_law_turned .nil closed_nil dtk_body (da_cons (de_var 4) (da_cons (de_ix (de_var 2) (de_call G_law_draw (am.room.mono (by decide)) am.guards rfl T.g_law_draw T.F_law_draw.kp T.b_law_draw .nil closed_nil dtk_body (da_cons (de_var 0) (da_cons de_int da_nil)))) da_nil))))
    (dss_cons (ds_set 5 sc_law_copy.nd (de_lc rfl sc_law_copy.nd (di_rng1 rfl T.m_range (da_cons de_int da_nil)) (blkOk_by (own := [("axis", 13)]) (N := N_law_copy) (sc := (defScope s_law_copy)) (by decide +kernel))
      (fun _ _ _ _ _ _ => (dgv_name 13 sc_law_copy.nd)) (fun _ _ _ _ _ _ => dts_nil) (fun _ _ _ _ _ _ => (de_callB (cr_max rfl) cad_max rfl T.m_max bt_max (da_cons (de_lc rfl sc_law_copy.nd (di_seq (de_var 4)) (blkOk_by (own := [("cells", 9)]) (N := N_law_copy) (sc := (relS _ (defScope s_law_copy))) (by decide +kernel))
      (fun _ _ _ _ _ _ => (dgv_name 9 sc_law_copy.nd)) (fun _ _ _ _ _ _ => dts_nil) (fun _ _ _ _ _ _ => (de_callB (cr_max rfl) cad_max rfl T.m_max bt_max (da_cons (de_lc rfl sc_law_copy.nd (di_seq (de_var 9)) (blkOk_by (own := [("cell", 15)]) (N := N_law_copy) (sc := (relS _ (relS _ (defScope s_law_copy)))) (by decide +kernel))
      (fun _ _ _ _ _ _ => (dgv_name 15 sc_law_copy.nd)) (fun _ _ _ _ _ _ => dts_nil) (fun _ _ _ _ _ _ => (de_ix (de_var 15) (de_var 13)))) da_nil)))) da_nil)))))
    (dss_cons (ds_set 6 sc_law_copy.nd (de_lc rfl sc_law_copy.nd (di_rng1 rfl T.m_range (da_cons de_int da_nil)) (blkOk_by (own := [("axis", 13)]) (N := N_law_copy) (sc := (defScope s_law_copy)) (by decide +kernel))
      (fun _ _ _ _ _ _ => (dgv_name 13 sc_law_copy.nd)) (fun _ _ _ _ _ _ => dts_nil) (fun _ _ _ _ _ _ => (de_call G_law_draw (am.room.mono (by decide)) am.guards rfl T.g_law_draw T.F_law_draw.kp T.b_law_draw .nil closed_nil dtk0 (da_cons (de_var 0) (da_cons (de_sub de_int (de_ix (de_var 5) (de_var 13))) da_nil))))))
    (dss_cons (ds_set 7 sc_law_copy.nd (de_call G_law_names (am.room.mono (by decide)) am.guards rfl T.g_law_names T.F_law_names.kp T.b_law_names .nil closed_nil dtk_body (da_cons (de_var 0) (da_cons (de_callB call_len cad_len rfl T.m_len bt_len (da_cons (de_var 4) da_nil)) da_nil))))
    (dss_cut (ds_if (dt_cmp1 (cd_eq am) (de_call G_law_draw (am.room.mono (by decide)) am.guards rfl T.g_law_draw T.F_law_draw.kp T.b_law_draw .nil closed_nil dtk_body (da_cons (de_var 0) (da_cons de_int da_nil))) de_int)
    (dss_one (ds_set 7 sc_law_copy.nd (de_lc rfl sc_law_copy.nd (di_seq (de_var 1)) (blkOk_by (own := [("piece", 12)]) (N := N_law_copy) (sc := (defScope s_law_copy)) (by decide +kernel))
      (fun _ _ _ _ _ _ => (dgv_name 12 sc_law_copy.nd)) (fun _ _ _ _ _ _ => dts_nil) (fun _ _ _ _ _ _ => (de_ix (de_var 12) de_int)))))
    dss_nil)
    (dss_one (ds_ret (de_call G_law_mixed (am.room.mono (by decide)) am.guards rfl T.g_law_mixed T.F_law_mixed.kp T.b_law_mixed .nil closed_nil dtk_body (da_cons (de_var 0) (da_cons (de_lc rfl sc_law_copy.nd (di_rng1 rfl T.m_range (da_cons (de_callB call_len cad_len rfl T.m_len bt_len (da_cons (de_var 4) da_nil)) da_nil)) (blkOk_by (own := [("k", 14)]) (N := N_law_copy) (sc := (defScope s_law_copy)) (by decide +kernel))
      (fun _ _ _ _ _ _ => (dgv_name 14 sc_law_copy.nd)) (fun _ _ _ _ _ _ => dts_nil) (fun _ _ _ _ _ _ => (de_tup (da_cons (de_ix (de_var 7) (de_var 14)) (da_cons (de_call G_law_moved (am.room.mono (by decide)) am.guards rfl T.g_law_moved T.F_law_moved.kp T.b_law_moved .nil closed_nil dtk0 (da_cons (de_ix (de_var 4) (de_var 14)) (da_cons (de_var 6) da_nil))) da_nil))))) da_nil))))))))))))))), ?_⟩
  intro ds Q h
  obtain ⟨_, _, _, rfl, a, ps, rfl, rfl, rfl, ok, near, hd, q⟩ := sp3_get h
  have D0 := DSt.refl hd
  dsimp!
  refine draw_do D0.deck (by decide) fun v S1 v0 v1 D1 => ?_
  dsimp!
  by_cases k0 : v = 0
  · rw [decide_eq_true k0]
    dsimp!
    refine ⟨a, rfl, D1.deck, fun qs S2 okq _ D2 => ?_⟩
    exact lows_same (q qs S2 okq (D1.trans D2))
  rw [decide_eq_false k0]
  dsimp!
  refine lcg pcD (fun p => slD p.2) trivial (fun p _ Q q => ?_) ?_
  · simp only [pcD]
    dsimp!
    exact q
  dsimp!
  have el : (ps.map fun p => slD p.2) = (ps.map (·.2)).map slD := by rw [List.map_map]; rfl
  rw [el]
  have n1 : 1 ≤ ps.length := List.length_pos_iff.mpr ok.ne
  have n6 := ok.few
  have raw0 : RawL ps.length 3 (ps.map (·.2)) := ⟨by rw [List.length_map], fun cs h => by
    obtain ⟨p, hp, rfl⟩ := List.mem_map.mp h
    have s := (ok.all p hp).2
    exact ⟨s.ne, s.few, s.asc.nodup, s.conn⟩, List.pairwise_map.mpr (ok.apart.imp fun {p q} h c hc hc2 => h c hc2 hc), fun a ha b hb c hc d hd k => by
    obtain ⟨p, hp, rfl⟩ := List.mem_map.mp ha
    obtain ⟨r, hr, rfl⟩ := List.mem_map.mp hb
    exact near p hp r hr c hc d hd k⟩
  refine ⟨fun env S => ∃ (d : D) (ds : List D) (css : List (List C3)) (x8 x9 : Option D), DSt B.S a S ∧ (∀ q, d = .ref q → q ≠ a) ∧ seqOf S d = some ds ∧ AllCells ds css ∧ RawL ps.length 3 css ∧ (v = 3 → d = .lst (css.map slD)) ∧ env = [some (.ref a), some (.lst (ps.map pcD)), some (.lst (tns.map tD)), some (.int v), some d, none, none, none, x8, x9, none, none, none, none, none, none], ?_, ?_⟩
  · dsimp!
    by_cases k3 : v < 3
    · rw [decide_eq_true k3]
      dsimp!
      intro p hp
      have pa : p ≠ a := D1.deck.ne hp
      have hp0 : B.S p = none := D1.none hp
      have D2 : DSt B.S a (put S1 p (.lst [])) := D1.new hp
      refine for_vs [9] (fun k xs S => DSt B.S a S ∧ S p = some (.lst (((ps.map (·.2)).take k).map fun cs => .lst ((cs.map mir).map cD))) ∧ ∃ x9, xs = [x9]) (xs0 := [none]) rfl ⟨D2, put_same, _, rfl⟩ (fun k d xs S Z hd ⟨D3, hS, x9, e⟩ hz => ⟨trivial, ?_⟩) (fun xs S ⟨D3, hS, x9, e⟩ => ⟨trivial, ?_⟩)
      · subst e
        rw [List.getElem?_map] at hd
        obtain ⟨cs, hcs, rfl⟩ : ∃ cs, (ps.map (·.2))[k]? = some cs ∧ slD cs = d := by
          cases e : (ps.map (·.2))[k]? with
          | none => rw [e] at hd; cases hd
          | some p => rw [e] at hd; cases hd; exact ⟨p, rfl, rfl⟩
        have hk := (List.getElem?_eq_some_iff.mp hcs).1
        rw [List.length_map] at hk
        dsimp!
        refine ⟨by unfold tyD; simp only [hS], ?_⟩
        unfold slD
        dsimp!
        refine lc_cells (fun c => cD (mir c)) trivial (fun c _ Q q => ?_) ?_
        · dsimp!
          refine cD_ix (by decide) (by decide) ?_
          dsimp!
          refine cD_ix (by decide) (by decide) ?_
          dsimp!
          refine cD_ix (by decide) (by decide) ?_
          dsimp!
          exact q
        dsimp!
        refine zo_append hS (szL (by rw [List.length_map, List.length_take, List.length_map]; omega)) ?_
        dsimp!
        refine hz [_] _ ⟨D3.own hp0 pa, ?_, _, rfl⟩
        rw [put_same, List.take_add_one, hcs, List.map_append]
        have e1 : (cs.map fun c => cD (mir c)) = (cs.map mir).map cD := by rw [List.map_map]; rfl
        rw [e1]
        rfl
      · subst e
        rw [List.length_map, List.take_length] at hS
        dsimp!
        have rm := raw0.iso iso_mir fun c d h k => by
          have h0 := h 0
          have h1 := h k
          unfold cAt mir
          have e0 : cAt c 0 = c.1 := rfl
          have e1 : cAt d 0 = d.1 := rfl
          rw [e0, e1] at h0
          unfold cAt at h1
          split
          · dsimp only; omega
          · rename_i hk
            rw [if_neg hk, if_neg hk] at h1
            exact h1.1
        refine ⟨.ref p, _, (ps.map (·.2)).map fun cs => cs.map mir, _, _, D3, fun q e => (by cases e; exact pa), seqOf_ref hS, ?_, rm, fun e => absurd e (by omega), rfl⟩
        have e2 : ∀ X : List (List C3), (X.map fun cs => D.lst ((cs.map mir).map cD)) = (X.map fun cs => cs.map mir).map fun cs => D.lst (cs.map cD) := fun X => by rw [List.map_map]; rfl
        rw [e2]
        exact AllCells.lsts
    · rw [decide_eq_false k3]
      dsimp!
      exact ⟨_, _, ps.map (·.2), _, _, D1, fun q e => (by cases e), rfl, all_sl, raw0, fun _ => rfl, rfl⟩
  rintro _ S2 ⟨d, ds, css, x8, x9, D2, hda, hds, hall, raw, hv3, rfl⟩
  refine ⟨fun env S => ∃ (d : D) (ds : List D) (css : List (List C3)) (x8 x9 x10 x11 : Option D), DSt B.S a S ∧ (∀ q, d = .ref q → q ≠ a) ∧ seqOf S d = some ds ∧ AllCells ds css ∧ RawL ps.length 15 css ∧ env = [some (.ref a), some (.lst (ps.map pcD)), some (.lst (tns.map tD)), some (.int v), some d, none, none, none, x8, x9, x10, x11, none, none, none, none], ?_, ?_⟩
  · dsimp!
    by_cases k3 : v = 3
    · rw [decide_eq_true k3]
      obtain rfl := hv3 k3
      have hcl : (css.length : Int) = ps.length := raw.len
      dsimp!
      refine draw_do D2.deck (by omega) fun j S3 j0 j1 D3' => ?_
      have D3 := D2.trans D3'
      obtain ⟨j, rfl⟩ : ∃ n : Nat, j = n := ⟨j.toNat, by omega⟩
      obtain ⟨cs, hcs⟩ : ∃ cs, css[j]? = some cs := ⟨css[j]'(by omega), List.getElem?_eq_getElem (by omega)⟩
      have lj := (List.getElem?_eq_some_iff.mp hcs).1
      dsimp!
      refine draw_do D3.deck (by decide) fun w S4 w0 w1 D4' => ?_
      have D4 := D3.trans D4'
      obtain ⟨o, ho, hoff, hsm⟩ : ∃ o : C3, atI [D.tup [.int 5, .int 0, .int 0], .tup [.int 0, .int 5, .int 0], .tup [.int 0, .int 0, .int (-6)]] w = some (.tup [.int o.1, .int o.2.1, .int o.2.2]) ∧ (∃ k, 3 < cAt o k ∨ cAt o k < -3) ∧ ∀ k, -6 ≤ cAt o k ∧ cAt o k ≤ 6 := by
        obtain rfl | rfl | rfl : w = 0 ∨ w = 1 ∨ w = 2 := by omega
        · exact ⟨(5, 0, 0), atI_0, ⟨0, .inl (by decide)⟩, cAt_all (P := fun z => -6 ≤ z ∧ z ≤ 6) (by decide) (by decide) (by decide)⟩
        · exact ⟨(0, 5, 0), atI_1, ⟨1, .inl (by decide)⟩, cAt_all (P := fun z => -6 ≤ z ∧ z ≤ 6) (by decide) (by decide) (by decide)⟩
        · exact ⟨(0, 0, -6), atI_2, ⟨2, .inr (by decide)⟩, cAt_all (P := fun z => -6 ≤ z ∧ z ≤ 6) (by decide) (by decide) (by decide)⟩
      dsimp!
      refine zIx_of ho ?_
      dsimp!
      refine zIx_nat (k := j) rfl (by rw [List.getElem?_map, hcs]; rfl) ?_
      dsimp!
      refine ⟨cs, o, .inl rfl, rfl, ?_⟩
      dsimp!
      rw [cutD_to (by omega), cutD_from (by omega)]
      have t1 : ((j : Int)).toNat = j := by omega
      have t2 : ((j : Int) + 1).toNat = j + 1 := by omega
      rw [t1, t2, ← List.map_take, ← List.map_drop]
      have cl6 : css.length ≤ 6 := by omega
      refine ⟨szL (by rw [List.length_map, List.length_take]; omega), szL (by rw [List.length_append, List.length_map, List.length_map, List.length_take, List.length_drop, List.length_singleton]; omega), ?_⟩
      have en : (css.take j).map slD ++ [slD (cs.map (addC o))] ++ (css.drop (j + 1)).map slD = (css.take j ++ [cs.map (addC o)] ++ css.drop (j + 1)).map slD := by
        rw [List.map_append, List.map_append]; rfl
      rw [en]
      refine ⟨_, _, css.take j ++ [cs.map (addC o)] ++ css.drop (j + 1), _, _, _, _, D4, fun q e => (by cases e), rfl, all_sl, ?_, rfl⟩
      have es : css = css.take j ++ cs :: css.drop (j + 1) := by
        have := List.drop_eq_getElem_cons lj
        rw [(List.getElem?_eq_some_iff.mp hcs).2] at this
        rw [← this, List.take_append_drop]
      have hm := List.mem_of_getElem? hcs
      have ca : ∀ (c : C3) (k : Int), cAt (addC o c) k = cAt c k + cAt o k := fun c k => by
        unfold cAt addC
        split
        · rfl
        · split <;> rfl
      have memo : ∀ x ∈ css.take j ++ [cs.map (addC o)] ++ css.drop (j + 1), x ∈ css ∨ x = cs.map (addC o) := fun x hx => by
        rcases List.mem_append.mp hx with hx | hx
        · rcases List.mem_append.mp hx with hx | hx
          · exact .inl (List.mem_of_mem_take hx)
          · exact .inr (List.mem_singleton.mp hx)
        · exact .inl (List.mem_of_mem_drop hx)
      have away : ∀ b ∈ css, ∀ c ∈ cs, addC o c ∉ b := fun b hb c hc hcb => by
        obtain ⟨k, hk⟩ := hoff
        have h1 := raw.span b hb cs hm _ hcb c hc k
        have h2 := raw.span cs hm b hb c hc _ hcb k
        rw [ca] at h1 h2
        omega
      refine ⟨?_, fun x hx => ?_, ?_, fun x hx y hy c hc d hd k => ?_⟩
      · rw [List.length_append, List.length_append, List.length_take, List.length_drop, List.length_singleton]; omega
      · rcases memo x hx with hx | rfl
        · exact raw.each x hx
        · obtain ⟨h1, h2, h3, h4⟩ := raw.each cs hm
          exact ⟨fun e => h1 (List.map_eq_nil_iff.mp e), by rw [List.length_map]; exact h2, (iso_add o).nd h3, (iso_add o).conn h4⟩
      · have ap := raw.ap
        rw [es] at ap
        obtain ⟨p1, p2, p3⟩ := List.pairwise_append.mp ap
        obtain ⟨p4, p5⟩ := List.pairwise_cons.mp p2
        rw [List.append_assoc]
        refine List.pairwise_append.mpr ⟨p1, List.pairwise_cons.mpr ⟨fun b hb c hc => ?_, p5⟩, fun x hx b hb c hc => ?_⟩
        · obtain ⟨c', hc', rfl⟩ := List.mem_map.mp hc
          exact away b (List.mem_of_mem_drop hb) c' hc'
        · rcases List.mem_cons.mp hb with rfl | hb
          · intro hcb
            obtain ⟨c', hc', rfl⟩ := List.mem_map.mp hcb
            exact away x (List.mem_of_mem_take hx) c' hc' hc
          · exact p3 x hx b (List.mem_cons_of_mem _ hb) c hc
      · have ho6 := hsm k
        rcases memo x hx with hx | rfl <;> rcases memo y hy with hy | rfl
        · have := raw.span x hx y hy c hc d hd k; omega
        · obtain ⟨d', hd', rfl⟩ := List.mem_map.mp hd
          have := raw.span x hx cs hm c hc d' hd' k
          rw [ca]; omega
        · obtain ⟨c', hc', rfl⟩ := List.mem_map.mp hc
          have := raw.span cs hm y hy c' hc' d hd k
          rw [ca]; omega
        · obtain ⟨c', hc', rfl⟩ := List.mem_map.mp hc
          obtain ⟨d', hd', rfl⟩ := List.mem_map.mp hd
          have := raw.span cs hm cs hm c' hc' d' hd' k
          rw [ca, ca]; omega
    · rw [decide_eq_false k3]
      dsimp!
      exact ⟨d, ds, css, _, _, _, _, D2, hda, hds, hall, raw.mono (by decide), rfl⟩
  rintro _ S3 ⟨d, ds, css, x8, x9, x10, x11, D3, hda, hds, hall, raw, rfl⟩
  dsimp!
  have tl : tns.length = 24 := by decide
  refine draw_do D3.deck (by decide) fun u S4 u0 u1 D4' => ?_
  have D4 := D3.trans D4'
  have hds := seq_keep D4' hda hds
  obtain ⟨u, rfl⟩ : ∃ n : Nat, u = n := ⟨u.toNat, by omega⟩
  obtain ⟨t, ht⟩ : ∃ t, tns[u]? = some t := ⟨tns[u]'(by rw [tl]; omega), List.getElem?_eq_getElem _⟩
  have tm := List.mem_of_getElem? ht
  dsimp!
  refine zIx_nat (k := u) rfl (by rw [List.getElem?_map, ht]; rfl) ?_
  dsimp!
  have cl : (css.length : Int) = ps.length := raw.len
  have cne : css ≠ [] := fun e => by rw [e] at cl; have : (([] : List (List C3)).length : Int) = 0 := rfl; omega
  have cfl : css.flatten ≠ [] := fun e => by
    obtain ⟨cs, hcs⟩ := List.exists_mem_of_ne_nil _ cne
    exact (raw.each cs hcs).1 (List.flatten_eq_nil_iff.mp e cs hcs)
  refine ⟨css, t, ⟨ds, hds, hall⟩, rfl, tns_ok t tm, cne, fun cs h => (raw.each cs h).1, by omega, ?_⟩
  have hcl : ∀ (css : List (List C3)), (css.map fun cs => D.tup (cs.map cD)) = css.map slD := fun _ => rfl
  rw [hcl]
  have tlen : (turnAll t css).length = ps.length := by rw [turnAll_len]; omega
  have leach : ∀ cs ∈ turnAll t css, cs ≠ [] := turn_each (fun cs h => (raw.each cs h).1) t
  have lne : turnAll t css ≠ [] := fun e => by rw [e] at tlen; simp at tlen; omega
  have mmax : ∀ k : Int, 0 ≤ k → k < 3 → 0 ≤ mxA (turnAll t css) k ∧ mxA (turnAll t css) k ≤ 15 := fun k k0 k3 => by
    obtain ⟨cs, hcs, c, hc, e⟩ := mxA_mem (k := k) lne leach
    rw [e]
    have eT : turnAll t css = (css.map fun cs => cs.map (imgC t)).map fun cs => csort (cs.map (subC (loC (css.map fun cs => cs.map (imgC t)).flatten))) := rfl
    rw [eT] at hcs
    obtain ⟨es, hes, rfl⟩ := List.mem_map.mp hcs
    obtain ⟨x, hx, rfl⟩ := List.mem_map.mp ((csort_perm _).mem_iff.mp hc)
    have get : ∀ x ∈ (css.map fun cs => cs.map (imgC t)).flatten, ∃ es ∈ css, ∃ c ∈ es, imgC t c = x := fun x hx => by
      obtain ⟨l, hl, hxl⟩ := List.mem_flatten.mp hx
      obtain ⟨es, hes, rfl⟩ := List.mem_map.mp hl
      obtain ⟨c, hc, rfl⟩ := List.mem_map.mp hxl
      exact ⟨es, hes, c, hc, rfl⟩
    obtain ⟨⟨b0, b1⟩, ⟨b2, b3⟩, b4, b5⟩ := span_box (l := (css.map fun cs => cs.map (imgC t)).flatten) (fun k k0 k3 x hx y hy => by
      obtain ⟨e1, he1, c1, b1, rfl⟩ := get x hx
      obtain ⟨e2, he2, c2, b2, rfl⟩ := get y hy
      exact raw_span (tns_ok t tm) (fun k => ⟨raw.span e1 he1 e2 he2 c1 b1 c2 b2 k, raw.span e2 he2 e1 he1 c2 b2 c1 b1 k⟩) k) (List.mem_flatten.mpr ⟨es, hes, hx⟩)
    obtain rfl | rfl | rfl : k = 0 ∨ k = 1 ∨ k = 2 := by omega
    · exact ⟨b0, b1⟩
    · exact ⟨b2, b3⟩
    · exact ⟨b4, b5⟩
  dsimp!
  refine lc_axes (fun k => .int (mxA (turnAll t css) k)) trivial (fun k k0 k3 Q q => ?_) ?_
  · dsimp!
    refine lcg slD (fun cs => .int (hiI (axs cs k))) trivial (fun cs hcs Q q => ?_) ?_
    · unfold slD
      dsimp!
      refine lc_cells (fun c => .int (cAt c k)) trivial (fun c _ Q q => ?_) ?_
      · dsimp!
        exact cD_ix k0 k3 q
      · dsimp!
        have e1 : (cs.map fun c => D.int (cAt c k)) = (axs cs k).map D.int := by unfold axs; rw [List.map_map]; rfl
        rw [e1]
        exact maxL_do (fun e => leach cs hcs (List.map_eq_nil_iff.mp e)) q
    · dsimp!
      have e1 : ((turnAll t css).map fun cs => D.int (hiI (axs cs k))) = ((turnAll t css).map fun cs => hiI (axs cs k)).map D.int := by rw [List.map_map]; rfl
      rw [e1]
      exact maxL_do (fun e => lne (List.map_eq_nil_iff.mp e)) q
  have m0 := mmax 0 (by decide) (by decide)
  have m1 := mmax 1 (by decide) (by decide)
  have m2 := mmax 2 (by decide) (by decide)
  dsimp!
  rw [upTo3]
  simp only [z_lcCons, z_lcN, z_lcNil]
  dsimp!
  refine draw_do D4.deck (by omega) fun o0 S5 o00 o01 D5' => ?_
  simp only [z_lcCons, z_lcN, z_lcNil]
  dsimp!
  refine draw_do D5'.deck (by omega) fun o1 S6 o10 o11 D6' => ?_
  simp only [z_lcCons, z_lcN, z_lcNil]
  dsimp!
  refine draw_do D6'.deck (by omega) fun o2 S7 o20 o21 D7' => ?_
  have D7 := D4.trans (D5'.trans (D6'.trans D7'))
  simp only [z_lcCons, z_lcN, z_lcNil]
  dsimp!
  rw [tlen]
  refine ⟨a, ps.length, rfl, rfl, by omega, D7.deck, fun ss S8 sl sn snd D8' => ?_⟩
  have D8 := D7.trans D8'
  dsimp!
  refine ⟨fun env S => ∃ (us : List Str) (x12 : Option D), DSt B.S a S ∧ us.length = ps.length ∧ (∀ s ∈ us, isName (.str s) = true) ∧ us.Nodup ∧ env = [some (.ref a), some (.lst (ps.map pcD)), some (.lst (tns.map tD)), some (.int v), some (.lst ((turnAll t css).map slD)), some (.lst [.int (mxA (turnAll t css) 0), .int (mxA (turnAll t css) 1), .int (mxA (turnAll t css) 2)]), some (.lst [.int o0, .int o1, .int o2]), some (.lst (us.map D.str)), x8, x9, x10, x11, x12, none, none, none], ?_, ?_⟩
  · dsimp!
    refine draw_do D8.deck (by decide) fun w S9 w0 w1 D9 => ?_
    dsimp!
    by_cases hw : w = 0
    · rw [decide_eq_true hw]
      dsimp!
      refine lcg pcD (fun p => .str p.1) trivial (fun p _ Q q => ?_) ?_
      · simp only [pcD]
        dsimp!
        exact q
      dsimp!
      have en : (ps.map fun p => D.str p.1) = (ps.map (·.1)).map D.str := by rw [List.map_map]; rfl
      rw [en]
      exact ⟨ps.map (·.1), _, D8.trans D9, by rw [List.length_map], fun s hs => by obtain ⟨p, hp, rfl⟩ := List.mem_map.mp hs; exact (ok.all p hp).1, ok.names, rfl⟩
    · rw [decide_eq_false hw]
      dsimp!
      exact ⟨ss, _, D8.trans D9, sl, sn, snd, rfl⟩
  rintro _ S9 ⟨us, x12, D9, ul, un, und, rfl⟩
  dsimp!
  rw [tlen]
  refine ⟨by omega, by omega, ?_⟩
  have n0 : ((ps.length : Int)).toNat = ps.length := by omega
  rw [n0]
  have ql : (us.zip ((turnAll t css).map fun cs => cs.map (addC (o0, o1, o2)))).length = ps.length := by rw [List.length_zip, List.length_map]; omega
  refine lc_upTo (fun k => match (us.zip ((turnAll t css).map fun cs => cs.map (addC (o0, o1, o2))))[k]? with | some p => pcD p | none => .non) trivial (fun k hk Q q => ?_) ?_
  · obtain ⟨s, hs⟩ : ∃ s, us[k]? = some s := ⟨us[k]'(by omega), List.getElem?_eq_getElem (by omega)⟩
    obtain ⟨cs, hcs⟩ : ∃ cs, (turnAll t css)[k]? = some cs := ⟨(turnAll t css)[k]'(by omega), List.getElem?_eq_getElem (by omega)⟩
    have hz : (us.zip ((turnAll t css).map fun cs => cs.map (addC (o0, o1, o2))))[k]? = some (s, cs.map (addC (o0, o1, o2))) := List.getElem?_zip_eq_some.mpr ⟨hs, by rw [List.getElem?_map, hcs]; rfl⟩
    simp only [hz] at q
    dsimp!
    refine zIx_nat (k := k) rfl (by rw [List.getElem?_map, hs]; rfl) ?_
    dsimp!
    refine zIx_nat (k := k) rfl (by rw [List.getElem?_map, hcs]; rfl) ?_
    dsimp!
    refine ⟨cs, (o0, o1, o2), .inl rfl, rfl, ?_⟩
    unfold slD
    dsimp!
    exact q
  have eq2 : ((List.range ps.length).map fun k => match (us.zip ((turnAll t css).map fun cs => cs.map (addC (o0, o1, o2))))[k]? with | some p => pcD p | none => D.non) = (us.zip ((turnAll t css).map fun cs => cs.map (addC (o0, o1, o2)))).map pcD := by
    rw [← ql]
    exact range_get fun k x h => by simp only [h]
  dsimp!
  rw [eq2]
  have qok := asm_raw (o := (o0, o1, o2)) (ss := us) tm raw (by omega) (by omega) (fun k k0 k3 => by
    obtain rfl | rfl | rfl : k = 0 ∨ k = 1 ∨ k = 2 := by omega
    · show 0 ≤ o0 ∧ o0 + _ ≤ 15; omega
    · show 0 ≤ o1 ∧ o1 + _ ≤ 15; omega
    · show 0 ≤ o2 ∧ o2 + _ ≤ 15; omega) (by omega) un und
  refine ⟨a, _, rfl, rfl, D9.deck, by rw [List.length_map, ql]; omega, fun cs' S10 pm D10 => ?_⟩
  obtain ⟨rs, rfl, pr⟩ := perm_unmap pcD pm
  exact lows_same (q rs S10 (qok.perm pr) (D9.trans D10))
def fstT (A B : List (List C3)) : Option T3 := tns.find? fun t => decide (leads A B t)
theorem fst_first {A B : List (List C3)} {k : Nat} {t : T3} (hk : tns[k]? = some t) (hn : ∀ t' ∈ tns.take k, ¬ leads A B t') (hl : leads A B t) : fstT A B = some t := by
  unfold fstT
  have e : tns = tns.take k ++ t :: tns.drop (k + 1) := by
    have lk := (List.getElem?_eq_some_iff.mp hk).1
    have := List.drop_eq_getElem_cons lk
    rw [(List.getElem?_eq_some_iff.mp hk).2] at this
    rw [← this, List.take_append_drop]
  rw [e, List.find?_append]
  have h1 : (tns.take k).find? (fun t => decide (leads A B t)) = none := List.find?_eq_none.mpr fun t' h' => by
    rw [decide_eq_true_eq]; exact hn t' h'
  rw [h1, List.find?_cons_of_pos (by rw [decide_eq_true_eq]; exact hl)]
  rfl
theorem fst_none {A B : List (List C3)} (h : ∀ t ∈ tns, ¬ leads A B t) : fstT A B = none := List.find?_eq_none.mpr fun t' h' => by
  rw [decide_eq_true_eq]; exact h t' h'
/-- None, or the first turn and who is led to whom -/
def lkD (ps qs : List Piece) : D := match fstT (ps.map (·.2)) (qs.map (·.2)) with
  | some t => .tup [tD t, .lst ((rowL (ps.map (·.1)) (qs.map (·.1)) (ps.map (·.2)) (qs.map (·.2)) t).map rwD)]
  | none => .non
def sp_law_likeness : DSp := sp3 fun d e f S Q _ => ∃ ps qs : List Piece, d = .lst (ps.map pcD) ∧ e = .lst (qs.map pcD) ∧ f = .lst (tns.map tD) ∧ SolsOk (ps.map (·.2)) ∧ SolsOk (qs.map (·.2)) ∧ Bd15 (ps.map (·.2)) ∧ Bd15 (qs.map (·.2)) ∧ Q (lkD ps qs) S
theorem sp_len_law_likeness : ∀ ds S Q E, sp_law_likeness ds S Q E → ds.length = 3 := sp3_len
theorem ok_law_likeness (T : Txt K mg C a fd) (G_law_shifted : DFn P w K mg base 1 (a 33) (fd 33) ["lists"] sp_law_shifted) (G_law_turned : DFn P w K mg base 3 (a 34) (fd 34) ["lists", "turn"] sp_law_turned) : DFn P w K mg base 4 (a 38) (fd 38) ["pieces", "others", "turns"] sp_law_likeness := by
  refine dfn_of T.F_law_likeness sc_law_likeness sp_len_law_likeness (fun cdv A outer s B Ed hr hgd => ?_)
  have am : Amb (A.deeper (envOfC "_law_likeness" (defScope s_law_likeness) s.heap.objs.size (a 38) cdv)) 3 := ⟨hr, hgd⟩
  refine ⟨_, (dss_cons (ds_set 3 sc_law_likeness.nd (de_call G_law_shifted (am.room.mono (by decide)) am.guards rfl T.g_law_shifted T.F_law_shifted.kp T.b_law_shifted .nil closed_nil dtk_body (da_cons (de_lc rfl sc_law_likeness.nd (di_seq (de_var 1)) (blkOk_by (own := [("other", 6)]) (N := N_law_likeness) (sc := (defScope s_law_likeness)) (by decide +kernel))
      (fun _ _ _ _ _ _ => (dgv_name 6 sc_law_likeness.nd)) (fun _ _ _ _ _ _ => dts_nil) (fun _ _ _ _ _ _ => (de_ix (de_var 6) de_int))) da_nil)))
    (dss_cons (ds_for (passes_of rfl) rfl (di_seq (de_var 2)) (dg_name 4 sc_law_likeness.nd)
    (dss_cons (ds_set 5 sc_law_likeness.nd (de_call G_law_turned (am.room.mono (by decide)) am.guards rfl T.g_law_turned T.F_law_turned.kp T.b_law_turned .nil closed_nil dtk_body (da_cons (de_lc rfl sc_law_likeness.nd (di_seq (de_var 0)) (blkOk_by (own := [("piece", 7)]) (N := N_law_likeness) (sc := (defScope s_law_likeness)) (by decide +kernel))
      (fun _ _ _ _ _ _ => (dgv_name 7 sc_law_likeness.nd)) (fun _ _ _ _ _ _ => dts_nil) (fun _ _ _ _ _ _ => (de_ix (de_var 7) de_int))) (da_cons (de_var 4) da_nil))))
    (dss_one (ds_if (dt_cmp1 (cd_eq am) (de_callB (cr_sortG am) cad_sortG rfl T.m_sorted bt_sorted (da_cons (de_var 5) da_nil)) (de_callB (cr_sortG am) cad_sortG rfl T.m_sorted bt_sorted (da_cons (de_var 3) da_nil)))
    (dss_one (ds_ret (de_tup (da_cons (de_var 4) (da_cons (de_lc rfl sc_law_likeness.nd (di_rng1 rfl T.m_range (da_cons (de_callB call_len cad_len rfl T.m_len bt_len (da_cons (de_var 0) da_nil)) da_nil)) (blkOk_by (own := [("k", 8)]) (N := N_law_likeness) (sc := (defScope s_law_likeness)) (by decide +kernel))
      (fun _ _ _ _ _ _ => (dgv_name 8 sc_law_likeness.nd)) (fun _ _ _ _ _ _ => dts_nil) (fun _ _ _ _ _ _ => (de_tup (da_cons (de_ix (de_ix (de_var 0) (de_var 8)) de_int) (da_cons (de_ix (de_ix (de_var 1) (de_index am (de_var 3) (da_cons (de_ix (de_var 5) (de_var 8)) da_nil))) de_int) da_nil))))) da_nil)))))
    dss_nil))))
    (dss_one (ds_ret de_non)))), ?_⟩
  intro ds Q h
  obtain ⟨_, _, _, rfl, ps, qs, rfl, rfl, rfl, o1, o2, b1, b2, q⟩ := sp3_get h
  dsimp!
  refine lcg pcD (fun p => slD p.2) trivial (fun p _ Q q => ?_) ?_
  · simp only [pcD]
    dsimp!
    exact q
  dsimp!
  have el : ∀ ps : List Piece, (ps.map fun p => slD p.2) = (ps.map (·.2)).map slD := fun ps => by rw [List.map_map]; rfl
  rw [el]
  refine ⟨qs.map (·.2), ⟨_, rfl, all_sl⟩, o2.ne, o2.each, by have := o2.few; omega, ?_⟩
  have hcl : ∀ (css : List (List C3)), (css.map fun cs => D.tup (cs.map cD)) = css.map slD := fun _ => rfl
  rw [hcl]
  dsimp!
  refine for_vs [4, 5] (fun k vs S => S = B.S ∧ (∀ t' ∈ tns.take k, ¬ leads (ps.map (·.2)) (qs.map (·.2)) t') ∧ ∃ x4 x5, vs = [x4, x5]) (xs0 := [none, none]) rfl ⟨rfl, fun t h => by simp at h, _, _, rfl⟩ (fun k x vs S Z hx ⟨hS, hn, x4, x5, e⟩ hz => ⟨trivial, ?_⟩) (fun vs S ⟨hS, hn, x4, x5, e⟩ => ⟨trivial, ?_⟩)
  · subst e hS
    rw [List.getElem?_map] at hx
    obtain ⟨t, ht, rfl⟩ : ∃ t, tns[k]? = some t ∧ tD t = x := by
      cases e : tns[k]? with
      | none => rw [e] at hx; cases hx
      | some p => rw [e] at hx; cases hx; exact ⟨p, rfl, rfl⟩
    have tok := tns_ok t (List.mem_of_getElem? ht)
    have et : tns.take (k + 1) = tns.take k ++ [t] := by rw [List.take_add_one, ht]; rfl
    dsimp!
    refine lcg pcD (fun p => slD p.2) trivial (fun p _ Q q => ?_) ?_
    · simp only [pcD]
      dsimp!
      exact q
    dsimp!
    rw [el]
    refine ⟨ps.map (·.2), t, ⟨_, rfl, all_sl⟩, rfl, tok, o1.ne, o1.each, by have := o1.few; omega, ?_⟩
    rw [hcl]
    have te := turn_each o1.each t
    have se : ∀ cs ∈ shiftAll (qs.map (·.2)), cs ≠ [] := by rw [← turn_no]; exact turn_each o2.each nT
    have ts := turned_small o1 b1 tok
    have gs : ∀ cs ∈ shiftAll (qs.map (·.2)), Small 2 8003 (slD cs) := by rw [← turn_no]; exact turned_small o2 b2 nT_ok
    have tl : (turnAll t (ps.map (·.2))).length ≤ 6 := by rw [turnAll_len]; exact o1.few
    have gl : (shiftAll (qs.map (·.2))).length ≤ 6 := by rw [shiftAll_len]; exact o2.few
    have okl : ∀ css : List (List C3), css.length ≤ 6 → (∀ cs ∈ css, Small 2 8003 (slD cs)) → okE (.lst (css.map slD)) = true := fun css hl h => (small_lst (k := 2) (n := 8003) (m := 6) (by rw [List.length_map]; exact hl) fun x hx => by
      obtain ⟨cs, hcs, rfl⟩ := List.mem_map.mp hx
      exact h cs hcs).okE (by decide)
    dsimp!
    refine sort_sl (css := turnAll t (ps.map (·.2))) rfl te ?_
    dsimp!
    refine sort_sl (css := shiftAll (qs.map (·.2))) rfl se ?_
    dsimp!
    have fl : ∀ css : List (List C3), flatD (.lst (css.map slD)) = true := fun css => flatAll_iff.mpr fun d hd => by obtain ⟨c, _, rfl⟩ := List.mem_map.mp hd; exact flat_sl
    refine eq_do (okl _ (by rw [(srtS_perm _).length_eq]; exact tl) fun cs h => ts cs ((srtS_perm _).mem_iff.mp h)) (okl _ (by rw [(srtS_perm _).length_eq]; exact gl) fun cs h => gs cs ((srtS_perm _).mem_iff.mp h)) ?_
    rw [eqD_of (fl _) (fl _) (b := decide (leads (ps.map (·.2)) (qs.map (·.2)) t)) (by
      rw [decide_eq_true_eq]
      unfold leads
      rw [← srtS_iff]
      exact ⟨fun h => by rw [h], fun h => fmD_inj (by unfold fmD; injection h with h; rw [h])⟩)]
    by_cases hl : leads (ps.map (·.2)) (qs.map (·.2)) t
    · rw [decide_eq_true hl]
      dsimp!
      have n6 := o1.few
      rw [List.length_map] at n6
      refine ⟨by omega, by omega, ?_⟩
      have n0 : ((ps.length : Int)).toNat = ps.length := by omega
      rw [n0]
      have lA : (turnAll t (ps.map (·.2))).length = ps.length := by rw [turnAll_len, List.length_map]
      have rl : (rowL (ps.map (·.1)) (qs.map (·.1)) (ps.map (·.2)) (qs.map (·.2)) t).length = ps.length := by
        unfold rowL
        rw [List.length_map, List.length_zip, List.length_map]; omega
      refine lc_upTo (fun k => match (rowL (ps.map (·.1)) (qs.map (·.1)) (ps.map (·.2)) (qs.map (·.2)) t)[k]? with | some r => rwD r | none => .non) trivial (fun k hk Q q => ?_) ?_
      · obtain ⟨p, hp⟩ : ∃ p, ps[k]? = some p := ⟨ps[k]'(by omega), List.getElem?_eq_getElem (by omega)⟩
        obtain ⟨sl, hsl⟩ : ∃ sl, (turnAll t (ps.map (·.2)))[k]? = some sl := ⟨(turnAll t (ps.map (·.2)))[k]'(by omega), List.getElem?_eq_getElem (by omega)⟩
        have hm : sl ∈ shiftAll (qs.map (·.2)) := hl.mem_iff.mp (List.mem_of_getElem? hsl)
        obtain ⟨j, ej, hj, hfirst⟩ := idx_sl hm
        have hjl : j < qs.length := by
          have := (List.getElem?_eq_some_iff.mp hj).1
          rw [shiftAll_len, List.length_map] at this
          exact this
        obtain ⟨o, ho⟩ : ∃ o, qs[j]? = some o := ⟨qs[j], List.getElem?_eq_getElem hjl⟩
        have hr : (rowL (ps.map (·.1)) (qs.map (·.1)) (ps.map (·.2)) (qs.map (·.2)) t)[k]? = some (p.1, o.1) := by
          unfold rowL
          rw [List.getElem?_map]
          have hz : ((ps.map (·.1)).zip (turnAll t (ps.map (·.2))))[k]? = some (p.1, sl) := List.getElem?_zip_eq_some.mpr ⟨by rw [List.getElem?_map, hp]; rfl, hsl⟩
          rw [hz]
          show some (p.1, nmAt (qs.map (·.1)) ((shiftAll (qs.map (·.2))).idxOf sl)) = _
          have := nmAt_get (ts := qs.map (·.1)) (k := j) (by rw [List.length_map]; exact hjl)
          rw [List.getElem?_map, ho] at this
          rw [ej, ← Option.some.inj this]
        simp only [hr] at q
        dsimp!
        refine zIx_nat (k := k) rfl (by rw [List.getElem?_map, hp]; rfl) ?_
        simp only [pcD]
        dsimp!
        refine ⟨rfl, ?_⟩
        refine zIx_nat (k := k) rfl (by rw [List.getElem?_map, hsl]; rfl) ?_
        dsimp!
        refine ⟨okl _ gl gs, (gs sl hm).okE (by decide), j, slD sl, by rw [List.getElem?_map, hj]; rfl, eqD_of (b := true) (x := slD sl) (y := slD sl) flat_sl flat_sl ⟨fun _ => rfl, fun _ => rfl⟩, fun m z' hm2 hz' => ?_, ?_⟩
        · rw [List.getElem?_map] at hz'
          cases eg : (shiftAll (qs.map (·.2)))[m]? with
          | none => rw [eg] at hz'; cases hz'
          | some g =>
            rw [eg] at hz'; cases hz'
            exact eqD_of (b := false) flat_sl flat_sl ⟨fun h => (by cases h), fun h => absurd (slD_inj h) (hfirst m g hm2 eg)⟩
        · dsimp!
          refine zIx_nat (k := j) rfl (by rw [List.getElem?_map, ho]; rfl) ?_
          simp only [pcD]
          dsimp!
          exact q
      have er : ((List.range ps.length).map fun k => match (rowL (ps.map (·.1)) (qs.map (·.1)) (ps.map (·.2)) (qs.map (·.2)) t)[k]? with | some r => rwD r | none => D.non) = (rowL (ps.map (·.1)) (qs.map (·.1)) (ps.map (·.2)) (qs.map (·.2)) t).map rwD := by
        rw [← rl]
        exact range_get fun k x h => by simp only [h]
      dsimp!
      rw [er]
      unfold lkD at q
      rw [fst_first ht hn hl] at q
      exact lows_same q
    · rw [decide_eq_false hl]
      dsimp!
      refine hz [_, _] _ ⟨rfl, fun t' h' => ?_, _, _, rfl⟩
      rw [et] at h'
      rcases List.mem_append.mp h' with h' | h'
      · exact hn t' h'
      · rw [List.mem_singleton.mp h']; exact hl
  · subst e hS
    rw [List.length_map, List.take_length] at hn
    dsimp!
    unfold lkD at q
    rw [fst_none hn] at q
    exact lows_same q
/-- shown alike -/
def sp_law_same : DSp := sp2 fun d e S Q _ => Shows d ∧ Shows e ∧ Q (.bl (decide (shown d = shown e))) S
theorem sp_len_law_same : ∀ ds S Q E, sp_law_same ds S Q E → ds.length = 2 := sp2_len
theorem ok_law_same (T : Txt K mg C a fd)  : DFn P w K mg base 1 (a 39) (fd 39) ["value", "due"] sp_law_same := by
  refine dfn_of T.F_law_same sc_law_same sp_len_law_same (fun cdv A outer s B Ed hr hgd => ?_)
  have am : Amb (A.deeper (envOfC "_law_same" (defScope s_law_same) s.heap.objs.size (a 39) cdv)) 0 := ⟨hr, hgd⟩
  refine ⟨_, (dss_one (ds_ret (de_cmp1 (cd_eq am) (de_callB (call_repr am) cad_repr rfl T.m_repr bt_repr (da_cons (de_var 0) da_nil)) (de_callB (call_repr am) cad_repr rfl T.m_repr bt_repr (da_cons (de_var 1) da_nil))))), ?_⟩
  intro ds Q h
  obtain ⟨d, e, rfl, h1, h2, q⟩ := sp2_get h
  simp!
  refine repr_do h1 ?_
  simp!
  refine repr_do h2 ?_
  simp!
  exact lows_same q
/-- the law -/
def sp_law : DSp := sp1 fun d S Q _ => ∃ ns : List Int, d = .lst (ns.map D.int) ∧ ∀ S', Q (.bl true) S'
theorem sp_len_law : ∀ ds S Q E, sp_law ds S Q E → ds.length = 1 := sp1_len
theorem law_holds : ∀ ns : List Int, ns.length ≤ 63 → ∀ S, sp_law [.lst (ns.map D.int)] S (fun v _ => v = .bl true) fun _ _ _ _ => False := fun ns _ S => ⟨ns, rfl, fun _ => rfl⟩
theorem tns_sorted : sortD (turns24.map tD) = tns.map tD := by
  refine sortD_of (by decide +kernel) ?_
  exact (List.isPerm_iff.mp (by decide +kernel : turns24.isPerm tns = true)).map tD
theorem tns_no2 : ∀ c ∈ tns, cmpT nT c = c := by decide +kernel
theorem asm_bd {ps : List Piece} (ok : AsmOk ps) : Bd15 (ps.map (·.2)) := fun cs h c hc k => by
  obtain ⟨p, hp, rfl⟩ := List.mem_map.mp h
  obtain ⟨⟨b0, b1⟩, ⟨b2, b3⟩, b4, b5⟩ := (ok.all p hp).2.box c hc
  exact cAt_all (P := fun z => -15 ≤ z ∧ z ≤ 15) (x := c.1) (y := c.2.1) (z := c.2.2) (by omega) (by omega) (by omega) k
theorem turn_shifted {B : List (List C3)} {c : T3} (hc : c ∈ tns) (h : SolsOk B) : turnAll c (shiftAll B) = turnAll c B := by
  rw [← turn_no, turn_two (tns_ok c hc) h.flat, tns_no2 c hc]
/-- a turn that leads: the same forms -/
theorem leads_forms {A B : List (List C3)} {t : T3} (ht : t ∈ tns) (oA : SolsOk A) (oB : SolsOk B) (hl : leads A B t) (x : List (List C3)) : x ∈ forms A ↔ x ∈ forms B := by
  have nB : (shiftAll B).flatten ≠ [] := by rw [← turn_no]; exact turnAll_flat oB
  have e : ∀ c ∈ tns, frmT B c = frmT A (cmpT t c) := fun c hc => by
    have p := turnAll_perm hl nB c
    rw [turn_two (tns_ok c hc) oA.flat, turn_shifted hc oB] at p
    exact (srtS_eq p).symm
  unfold forms
  rw [List.mem_map, List.mem_map]
  constructor
  · rintro ⟨c, hc, rfl⟩
    obtain ⟨b, hb, eb⟩ := tns_div t ht c hc
    exact ⟨b, hb, by rw [e b hb, eb]⟩
  · rintro ⟨c, hc, rfl⟩
    exact ⟨cmpT t c, tns_cmp t ht c hc, (e c hc).symm⟩
theorem form_lead {A B f g : List (List C3)} (oA : SolsOk A) (oB : SolsOk B) (hf : LeastF (forms A) f) (hg : LeastF (forms B) g) : decide (f = g) = (fstT A B).isSome := by
  rw [Bool.eq_iff_iff, decide_eq_true_eq]
  unfold fstT
  rw [List.find?_isSome]
  constructor
  · rintro rfl
    obtain ⟨t1, h1, e1⟩ := List.mem_map.mp hf.1
    obtain ⟨t2, h2, e2⟩ := List.mem_map.mp hg.1
    have p : (turnAll t1 A).Perm (turnAll t2 B) := srtS_iff.mp (e1.trans e2.symm)
    obtain ⟨b, hb, eb⟩ := tns_div t2 h2 nT nT_in
    have p2 := turnAll_perm p (turnAll_flat oB) b
    rw [turn_two (tns_ok b hb) oA.flat, turn_two (tns_ok b hb) oB.flat, eb, turn_no] at p2
    exact ⟨cmpT t1 b, tns_cmp t1 h1 b hb, decide_eq_true p2⟩
  · rintro ⟨t, ht, hl⟩
    exact hf.uniq hg (leads_forms ht oA oB (of_decide_eq_true hl))
theorem lk_shows {ps qs : List Piece} (ok : AsmOk ps) (ok2 : AsmOk qs) : Shows (lkD ps qs) := by
  unfold lkD
  cases h : fstT (ps.map (·.2)) (qs.map (·.2)) with
  | none => exact small_non.shows (by decide) (by decide)
  | some t =>
    have tm : t ∈ tns := List.mem_of_find?_eq_some h
    have few := ok.few
    have nm : ∀ r ∈ rowL (ps.map (·.1)) (qs.map (·.1)) (ps.map (·.2)) (qs.map (·.2)) t, nmOk r.1 ∧ nmOk r.2 := fun r hr => by
      unfold rowL at hr
      obtain ⟨z, hz, rfl⟩ := List.mem_map.mp hr
      refine ⟨?_, ?_⟩
      · obtain ⟨p, hp, e⟩ := List.mem_map.mp (List.of_mem_zip (show (z.1, z.2) ∈ _ from hz)).1
        rw [← e]
        exact name_ok (ok.all p hp).1
      · show nmOk (nmAt _ _)
        unfold nmAt
        cases e : (qs.map (·.1))[(shiftAll (qs.map (·.2))).idxOf z.2]? with
        | none => exact ⟨by decide, by decide +kernel⟩
        | some s =>
          obtain ⟨p, hp, e2⟩ := List.mem_map.mp (List.mem_of_getElem? e)
          show nmOk s
          rw [← e2]
          exact name_ok (ok2.all p hp).1
    refine (small_tup (k := 3) (n := 2000) (m := 2) (Nat.le_refl _) fun x hx => ?_).shows (by decide) (by decide)
    simp only [List.mem_cons, List.mem_nil_iff, or_false] at hx
    rcases hx with rfl | rfl
    · exact (small_turn (tns_ok t tm)).mono (by decide) (by decide)
    · refine (small_lst (k := 1) (n := 200) (m := 6) ?_ fun x hx => ?_).mono (by decide) (by decide)
      · rw [List.length_map]
        unfold rowL
        rw [List.length_map, List.length_zip, List.length_map]; omega
      · obtain ⟨r, hr, rfl⟩ := List.mem_map.mp hx
        refine (small_tup (k := 0) (n := 82) (m := 2) (Nat.le_refl _) fun y hy => ?_).mono (by decide) (by decide)
        simp only [List.mem_cons, List.mem_nil_iff, or_false] at hy
        rcases hy with rfl | rfl
        · exact nm_small (nm r hr).1
        · exact nm_small (nm r hr).2
theorem lk_non {ps qs : List Piece} : DL.isNon (lkD ps qs) = !(fstT (ps.map (·.2)) (qs.map (·.2))).isSome := by
  unfold lkD
  cases fstT (ps.map (·.2)) (qs.map (·.2)) <;> rfl
theorem ok_law (T : Txt K mg C a fd) (G_Assembly___init__ : DFn P w K mg base 5 (a 23) (fd 23) ["self", "pieces"] (sp_Assembly___init__ C)) (G_Assembly_pieces : DFn P w K mg base 1 (a 9) (fd 9) ["self"] (sp_Assembly_pieces C)) (G_law_copy : DFn P w K mg base 4 (a 37) (fd 37) ["deck", "pieces", "turns"] sp_law_copy) (G_law_deck : DFn P w K mg base 1 (a 24) (fd 24) ["script"] sp_law_deck) (G_law_few : DFn P w K mg base 3 (a 29) (fd 29) ["deck"] sp_law_few) (G_law_likeness : DFn P w K mg base 4 (a 38) (fd 38) ["pieces", "others", "turns"] sp_law_likeness) (G_law_same : DFn P w K mg base 1 (a 39) (fd 39) ["value", "due"] sp_law_same) (G_law_turns : DFn P w K mg base 2 (a 31) (fd 31) [] sp_law_turns) (G_alike : DFn P w K mg base 4 (a 12) (fd 12) ["one", "other"] (sp_alike C)) (G_form_of : DFn P w K mg base 3 (a 11) (fd 11) ["assembly"] (sp_form_of C)) (G_likeness : DFn P w K mg base 3 (a 14) (fd 14) ["one", "other"] (sp_likeness C)) : DFn P w K mg base 7 (a 40) (fd 40) ["script"] sp_law := by
  refine dfn_of T.F_law sc_law sp_len_law (fun cdv A outer s B Ed hr hgd => ?_)
  have am : Amb (A.deeper (envOfC "law" (defScope s_law) s.heap.objs.size (a 40) cdv)) 6 := ⟨hr, hgd⟩
  refine ⟨_, (dss_cons (ds_set 1 sc_law.nd (de_call G_law_deck (am.room.mono (by decide)) am.guards rfl T.g_law_deck T.F_law_deck.kp T.b_law_deck .nil closed_nil dtk_body (da_cons (de_var 0) da_nil)))
    (dss_cons (ds_set 2 sc_law.nd (de_call0 G_law_turns (am.room.mono (by decide)) am.guards rfl T.g_law_turns T.F_law_turns.kp T.b_law_turns .nil closed_nil dtk_body))
    (dss_cons (ds_set 3 sc_law.nd (de_call G_law_few (am.room.mono (by decide)) am.guards rfl T.g_law_few T.F_law_few.kp T.b_law_few .nil closed_nil dtk_body (da_cons (de_var 1) da_nil)))
    (dss_cons (ds_set 4 sc_law.nd (de_call G_law_copy (am.room.mono (by decide)) am.guards rfl T.g_law_copy T.F_law_copy.kp T.b_law_copy .nil closed_nil dtk_body (da_cons (de_var 1) (da_cons (de_var 3) (da_cons (de_var 2) da_nil)))))
    (dss_cons (ds_set 5 sc_law.nd (de_deep (de_make T.mk_Assembly G_Assembly___init__ (am.room.mono (by decide)) am.guards rfl T.gc_Assembly T.b_Assembly___init__ .nil closed_nil dtk_body (da_cons (de_callTy call_list_of cad_list rfl T.m_list bt_list (da_cons (de_var 3) da_nil)) da_nil))))
    (dss_cons (ds_set 6 sc_law.nd (de_deep (de_make T.mk_Assembly G_Assembly___init__ (am.room.mono (by decide)) am.guards rfl T.gc_Assembly T.b_Assembly___init__ .nil closed_nil dtk_body (da_cons (de_callTy call_list_of cad_list rfl T.m_list bt_list (da_cons (de_var 4) da_nil)) da_nil))))
    (dss_cons (ds_set 7 sc_law.nd (de_call G_law_likeness (am.room.mono (by decide)) am.guards rfl T.g_law_likeness T.F_law_likeness.kp T.b_law_likeness .nil closed_nil dtk_body (da_cons (de_var 3) (da_cons (de_var 4) (da_cons (de_var 2) da_nil)))))
    (dss_cons (ds_for (passes_of rfl) rfl (di_rng1 rfl T.m_range (da_cons de_int da_nil)) (dg_name 8 sc_law.nd)
    (dss_cons (ds_set 11 sc_law.nd (de_call G_likeness (am.room.mono (by decide)) am.guards rfl T.g_likeness T.F_likeness.kp T.b_likeness .nil closed_nil dtk_body (da_cons (de_var 5) (da_cons (de_var 6) da_nil))))
    (dss_cons (ds_if (dt_not (dt_tru (de_readD fun _ => (de_call G_law_same (am.room.mono (by decide)) am.guards rfl T.g_law_same T.F_law_same.kp T.b_law_same .nil closed_nil dtk0 (da_cons (de_var 11) (da_cons (de_var 7) da_nil))))))
    (dss_one (ds_ret de_bl))
    dss_nil)
    (dss_one (ds_if (dt_notN (de_var 11))
    (dss_one (ds_expr (de_append (de_ix (de_var 11) de_int) (da_cons de_non da_nil))))
    dss_nil)))))
    (dss_cons (ds_set 9 sc_law.nd (de_lst (da_cons (de_call G_alike (am.room.mono (by decide)) am.guards rfl T.g_alike T.F_alike.kp T.b_alike .nil closed_nil dtk_body (da_cons (de_var 5) (da_cons (de_var 6) da_nil))) (da_cons (de_call G_alike (am.room.mono (by decide)) am.guards rfl T.g_alike T.F_alike.kp T.b_alike .nil closed_nil dtk_body (da_cons (de_var 6) (da_cons (de_var 5) da_nil))) (da_cons (de_cmp1 (cd_eq am) (de_call G_form_of (am.room.mono (by decide)) am.guards rfl T.g_form_of T.F_form_of.kp T.b_form_of .nil closed_nil dtk_body (da_cons (de_var 5) da_nil)) (de_call G_form_of (am.room.mono (by decide)) am.guards rfl T.g_form_of T.F_form_of.kp T.b_form_of .nil closed_nil dtk_body (da_cons (de_var 6) da_nil))) da_nil)))))
    (dss_cons (ds_if (dt_not (dt_tru (de_call G_law_same (am.room.mono (by decide)) am.guards rfl T.g_law_same T.F_law_same.kp T.b_law_same .nil closed_nil dtk_body (da_cons (de_var 9) (da_cons (de_lst (da_cons (de_notN (de_var 7)) (da_cons (de_notN (de_var 7)) (da_cons (de_notN (de_var 7)) da_nil)))) da_nil)))))
    (dss_one (ds_ret de_bl))
    dss_nil)
    (dss_cons (ds_set 10 sc_law.nd (de_call G_likeness (am.room.mono (by decide)) am.guards rfl T.g_likeness T.F_likeness.kp T.b_likeness .nil closed_nil dtk_body (da_cons (de_var 6) (da_cons (de_var 5) da_nil))))
    (dss_one (ds_ret (de_and (de_readD fun _ => (de_call G_law_same (am.room.mono (by decide)) am.guards rfl T.g_law_same T.F_law_same.kp T.b_law_same .nil closed_nil dtk0 (da_cons (de_var 10) (da_cons (de_call G_law_likeness (am.room.mono (by decide)) am.guards rfl T.g_law_likeness T.F_law_likeness.kp T.b_law_likeness .nil closed_nil dtk0 (da_cons (de_var 4) (da_cons (de_var 3) (da_cons (de_var 2) da_nil)))) da_nil)))) (de_one (de_readD fun _ => (de_call G_law_same (am.room.mono (by decide)) am.guards rfl T.g_law_same T.F_law_same.kp T.b_law_same .nil closed_nil dtk0 (da_cons (de_callM0 T.cl_Assembly T.me_Assembly_pieces G_Assembly_pieces (am.room.mono (by decide)) am.guards T.b_Assembly_pieces .nil closed_nil dtk0 (de_var 6)) (da_cons (de_var 4) da_nil))))))))))))))))))), ?_⟩
  intro ds Q h
  obtain ⟨_, rfl, ns, rfl, q⟩ := sp1_get h
  dsimp!
  refine ⟨ns, rfl, fun a S1 ha hd hk => ?_⟩
  dsimp!
  refine ⟨rfl, ?_⟩
  rw [tns_sorted]
  dsimp!
  refine ⟨a, rfl, hd, fun ps S2 ok near D2 => ?_⟩
  dsimp!
  refine ⟨a, ps, rfl, rfl, rfl, ok, near, D2.deck, fun qs S3 ok2 D3 => ?_⟩
  dsimp!
  refine make_asm rfl ok ?_
  dsimp!
  refine make_asm rfl ok2 ?_
  dsimp!
  have oA := asm_sols ok
  have oB := asm_sols ok2
  have bA := asm_bd ok
  have bB := asm_bd ok2
  refine ⟨ps, qs, rfl, rfl, rfl, oA, oB, bA, bB, ?_⟩
  dsimp!
  refine for_vs [8, 11] (fun k xs S => ∃ x8 x11, xs = [x8, x11]) (xs0 := [none, none]) rfl ⟨_, _, rfl⟩ (fun k d xs S Z hd ⟨x8, x11, e⟩ hz => ⟨trivial, ?_⟩) (fun xs S ⟨x8, x11, e⟩ => ⟨trivial, ?_⟩)
  · subst e
    dsimp!
    refine ⟨ps, qs, holds_asm, holds_asm, oA, oB, bA, bB, fun k t hk hn hl p hp => ?_, fun h => ?_⟩
    · have ef := fst_first hk hn hl
      have el : lkD ps qs = .tup [tD t, .lst ((rowL (ps.map (·.1)) (qs.map (·.1)) (ps.map (·.2)) (qs.map (·.2)) t).map rwD)] := by unfold lkD; rw [ef]
      dsimp!
      have sh := lk_shows ok ok2
      have rl : ((rowL (ps.map (·.1)) (qs.map (·.1)) (ps.map (·.2)) (qs.map (·.2)) t).map rwD).length ≤ 6 := by
        have few := ok.few
        rw [List.length_map]
        unfold rowL
        rw [List.length_map, List.length_zip, List.length_map]; omega
      refine readD_do (lowED_set (d := .tup [tD t, .ref p]) (d' := lkD ps qs) (i := 11) (by rw [el]; exact .tup (.cons (.same _) (.cons (.lst put_same rfl (LowL.same _)) .nil))) rfl) ?_
      dsimp!
      refine ⟨sh, sh, ?_⟩
      rw [dd_self]
      refine ⟨rfl, ?_⟩
      dsimp!
      refine ⟨by unfold tyD; simp only [put_same], ?_⟩
      refine zo_append put_same (szL (by omega)) ?_
      dsimp!
      exact hz [_, _] _ ⟨_, _, rfl⟩
    · have ef := fst_none h
      have el : lkD ps qs = .non := by unfold lkD; rw [ef]
      dsimp!
      have sh := lk_shows ok ok2
      refine readD_do (lowED_same _) ?_
      dsimp!
      rw [el] at sh
      rw [el]
      refine ⟨sh, sh, ?_⟩
      rw [dd_self]
      refine ⟨rfl, ?_⟩
      dsimp!
      rw [← el]
      exact hz [_, _] _ ⟨_, _, rfl⟩
  · subst e
    dsimp!
    refine ⟨ps, qs, holds_asm, holds_asm, fun _ _ => holds_asm, oA, oB, bA, bB, fun f g S5 hf hg sb5 => ?_⟩
    rw [form_lead oA oB hf hg]
    dsimp!
    refine ⟨qs, ps, holds_asm, holds_asm, fun _ _ => holds_asm, oB, oA, bB, bA, fun g2 f2 S6 hg2 hf2 sb6 => ?_⟩
    have e2 : decide (g2 = f2) = (fstT (ps.map (·.2)) (qs.map (·.2))).isSome := by
      rw [← form_lead oA oB hf2 hg2, decide_eq_decide]
      exact ⟨fun h => h.symm, fun h => h.symm⟩
    rw [e2]
    dsimp!
    refine ⟨ps, holds_asm, oA, fun f3 S7 hf3 sb7 => ?_⟩
    dsimp!
    refine ⟨qs, holds_asm, oB, fun g3 S8 hg3 sb8 => ?_⟩
    dsimp!
    refine eq_do ((forms_small oA bA f3 hf3.1).okE (by decide)) ((forms_small oB bB g3 hg3.1).okE (by decide)) ?_
    rw [eqD_of flat_fm flat_fm (b := decide (f3 = g3)) (by rw [decide_eq_true_eq]; exact ⟨fun h => by rw [h], fmD_inj⟩), form_lead oA oB hf3 hg3]
    have en := lk_non (ps := ps) (qs := qs)
    unfold DL.isNon at en
    dsimp!
    rw [en]
    have b3 : ∀ b : Bool, Shows (.lst [.bl b, .bl b, .bl b]) := fun b => (small_lst (k := 0) (n := 5) (m := 3) (Nat.le_refl _) fun x hx => by
      simp only [List.mem_cons, List.mem_nil_iff, or_false] at hx
      rcases hx with rfl | rfl | rfl <;> exact small_bl).shows (by decide) (by decide)
    have nn : ∀ b : Bool, (!!b) = b := fun b => by cases b <;> rfl
    simp only [nn]
    refine ⟨b3 _, b3 _, ?_⟩
    dsimp!
    have sh := lk_shows ok2 ok
    have shp : Shows (.lst (qs.map pcD)) := (small_lst (k := 3) (n := 16300) (m := 6) (by rw [List.length_map]; exact ok2.few) fun x hx => by
      obtain ⟨p, hpm, rfl⟩ := List.mem_map.mp hx
      exact few_small0 (ok2.all p hpm)).shows (by decide) (by decide)
    refine ⟨qs, ps, holds_asm, holds_asm, oB, oA, bB, bA, fun k t hk hn hl p hp => ?_, fun h => ?_⟩
    · have ef := fst_first hk hn hl
      have el : lkD qs ps = .tup [tD t, .lst ((rowL (qs.map (·.1)) (ps.map (·.1)) (qs.map (·.2)) (ps.map (·.2)) t).map rwD)] := by unfold lkD; rw [ef]
      dsimp!
      refine readD_do (lowED_set (d := .tup [tD t, .ref p]) (d' := lkD qs ps) (i := 10) (by rw [el]; exact .tup (.cons (.same _) (.cons (.lst put_same rfl (LowL.same _)) .nil))) rfl) ?_
      dsimp!
      refine ⟨qs, ps, rfl, rfl, rfl, oB, oA, bB, bA, ?_⟩
      dsimp!
      refine ⟨sh, sh, ?_⟩
      rw [dd_self]
      refine ⟨rfl, ?_⟩
      dsimp!
      refine readD_do (lowED_same _) ?_
      dsimp!
      refine ⟨holds_in holds_asm (by decide +kernel), qs, holds_asm, ?_⟩
      dsimp!
      refine ⟨shp, shp, ?_⟩
      rw [dd_self]
      exact ⟨rfl, lows_same (q _)⟩
    · have ef := fst_none h
      have el : lkD qs ps = .non := by unfold lkD; rw [ef]
      dsimp!
      refine readD_do (lowED_same _) ?_
      dsimp!
      refine ⟨qs, ps, rfl, rfl, rfl, oB, oA, bB, bA, ?_⟩
      dsimp!
      rw [el] at sh ⊢
      refine ⟨sh, sh, ?_⟩
      rw [dd_self]
      refine ⟨rfl, ?_⟩
      dsimp!
      refine readD_do (lowED_same _) ?_
      dsimp!
      refine ⟨holds_in holds_asm (by decide +kernel), qs, holds_asm, ?_⟩
      dsimp!
      refine ⟨shp, shp, ?_⟩
      rw [dd_self]
      exact ⟨rfl, lows_same (q _)⟩
end
theorem all_mk {l : PySem.W.OpenLaw} {w : World} {K : PySem.W.Frag} {h : Heap} {mg : Str → Option Value} {fa : Addr} (X : K.In h) (G : h.Ns mainGlobals mg) (hfa : mg "law" = some (.ref fa))
    {c_Assembly : Addr}
    (gc_Assembly : PySem.W.nsIn K mainGlobals "Assembly" = some (some (.ref c_Assembly)))
    (pg_Assembly : PySem.W.plainGet K c_Assembly Str.empty = true) (hd_Assembly : PySem.W.hasDictIn K c_Assembly = true) (po_Assembly : PySem.W.plainOver K c_Assembly = true) (sa_Assembly : PySem.W.findIn K (.ref c_Assembly) "__setattr__" = some (some (.builtin "object.__setattr__"))) (mk_Assembly : PySem.W.makesIn K c_Assembly = true) (kc_Assembly : PySem.W.keepIn K (.ref c_Assembly) = true)
    (na_Assembly__pieces : PySem.W.findIn K (.ref c_Assembly) "_pieces" = some none)
    {c_PieceError : Addr}
    {c_BadCount : Addr}
    {c_BadName : Addr}
    {c_BadSolid : Addr}
    {c_SameName : Addr}
    {c_Overlap : Addr}
    (gc_PieceError : PySem.W.nsIn K mainGlobals "PieceError" = some (some (.ref (c_PieceError))))
    (gc_BadCount : PySem.W.nsIn K mainGlobals "BadCount" = some (some (.ref (c_BadCount))))
    (gc_BadName : PySem.W.nsIn K mainGlobals "BadName" = some (some (.ref (c_BadName))))
    (gc_BadSolid : PySem.W.nsIn K mainGlobals "BadSolid" = some (some (.ref (c_BadSolid))))
    (gc_SameName : PySem.W.nsIn K mainGlobals "SameName" = some (some (.ref (c_SameName))))
    (gc_Overlap : PySem.W.nsIn K mainGlobals "Overlap" = some (some (.ref (c_Overlap))))
    {oc0 kV0 dc0 pm0 cd0 ct0 : Value}
    {a0 : Addr} {od0 an0 : Option Addr} {sl0 : Array (Option Value)}
    (n0 : PySem.W.nsIn K mainGlobals "is_integer" = some (some (.ref a0)))
    (l0 : K.lookup a0 = some ⟨oc0, od0, .func (PySem.W.fnOf "is_integer" "is_integer" (defArgs s_is_integer) (defBody s_is_integer) (defScope s_is_integer) .none kV0 dc0 pm0 an0 cd0 ct0), sl0⟩)
    (c0 : PySem.W.codeIn K cd0 "is_integer" = true)
    (k0 : PySem.W.keepIn K (.ref a0) = true)
    {oc1 kV1 dc1 pm1 cd1 ct1 : Value}
    {a1 : Addr} {od1 an1 : Option Addr} {sl1 : Array (Option Value)}
    (n1 : PySem.W.nsIn K mainGlobals "is_cell" = some (some (.ref a1)))
    (l1 : K.lookup a1 = some ⟨oc1, od1, .func (PySem.W.fnOf "is_cell" "is_cell" (defArgs s_is_cell) (defBody s_is_cell) (defScope s_is_cell) .none kV1 dc1 pm1 an1 cd1 ct1), sl1⟩)
    (c1 : PySem.W.codeIn K cd1 "is_cell" = true)
    (k1 : PySem.W.keepIn K (.ref a1) = true)
    {oc2 kV2 dc2 pm2 cd2 ct2 : Value}
    {a2 : Addr} {od2 an2 : Option Addr} {sl2 : Array (Option Value)}
    (n2 : PySem.W.nsIn K mainGlobals "beside" = some (some (.ref a2)))
    (l2 : K.lookup a2 = some ⟨oc2, od2, .func (PySem.W.fnOf "beside" "beside" (defArgs s_beside) (defBody s_beside) (defScope s_beside) .none kV2 dc2 pm2 an2 cd2 ct2), sl2⟩)
    (c2 : PySem.W.codeIn K cd2 "beside" = true)
    (k2 : PySem.W.keepIn K (.ref a2) = true)
    {oc3 kV3 dc3 pm3 cd3 ct3 : Value}
    {a3 : Addr} {od3 an3 : Option Addr} {sl3 : Array (Option Value)}
    (n3 : PySem.W.nsIn K mainGlobals "hang_together" = some (some (.ref a3)))
    (l3 : K.lookup a3 = some ⟨oc3, od3, .func (PySem.W.fnOf "hang_together" "hang_together" (defArgs s_hang_together) (defBody s_hang_together) (defScope s_hang_together) .none kV3 dc3 pm3 an3 cd3 ct3), sl3⟩)
    (c3 : PySem.W.codeIn K cd3 "hang_together" = true)
    (k3 : PySem.W.keepIn K (.ref a3) = true)
    {oc4 kV4 dc4 pm4 cd4 ct4 : Value}
    {a4 : Addr} {od4 an4 : Option Addr} {sl4 : Array (Option Value)}
    (n4 : PySem.W.nsIn K mainGlobals "is_solid" = some (some (.ref a4)))
    (l4 : K.lookup a4 = some ⟨oc4, od4, .func (PySem.W.fnOf "is_solid" "is_solid" (defArgs s_is_solid) (defBody s_is_solid) (defScope s_is_solid) .none kV4 dc4 pm4 an4 cd4 ct4), sl4⟩)
    (c4 : PySem.W.codeIn K cd4 "is_solid" = true)
    (k4 : PySem.W.keepIn K (.ref a4) = true)
    {oc5 kV5 dc5 pm5 cd5 ct5 : Value}
    {a5 : Addr} {od5 an5 : Option Addr} {sl5 : Array (Option Value)}
    (n5 : PySem.W.nsIn K mainGlobals "extents" = some (some (.ref a5)))
    (l5 : K.lookup a5 = some ⟨oc5, od5, .func (PySem.W.fnOf "extents" "extents" (defArgs s_extents) (defBody s_extents) (defScope s_extents) .none kV5 dc5 pm5 an5 cd5 ct5), sl5⟩)
    (c5 : PySem.W.codeIn K cd5 "extents" = true)
    (k5 : PySem.W.keepIn K (.ref a5) = true)
    {oc6 kV6 dc6 pm6 cd6 ct6 : Value}
    {a6 : Addr} {od6 an6 : Option Addr} {sl6 : Array (Option Value)}
    (n6 : PySem.W.nsIn K mainGlobals "moved" = some (some (.ref a6)))
    (l6 : K.lookup a6 = some ⟨oc6, od6, .func (PySem.W.fnOf "moved" "moved" (defArgs s_moved) (defBody s_moved) (defScope s_moved) .none kV6 dc6 pm6 an6 cd6 ct6), sl6⟩)
    (c6 : PySem.W.codeIn K cd6 "moved" = true)
    (k6 : PySem.W.keepIn K (.ref a6) = true)
    {oc7 kV7 dc7 pm7 cd7 ct7 : Value}
    {a7 : Addr} {od7 an7 : Option Addr} {sl7 : Array (Option Value)}
    (n7 : PySem.W.nsIn K mainGlobals "image_of" = some (some (.ref a7)))
    (l7 : K.lookup a7 = some ⟨oc7, od7, .func (PySem.W.fnOf "image_of" "image_of" (defArgs s_image_of) (defBody s_image_of) (defScope s_image_of) .none kV7 dc7 pm7 an7 cd7 ct7), sl7⟩)
    (c7 : PySem.W.codeIn K cd7 "image_of" = true)
    (k7 : PySem.W.keepIn K (.ref a7) = true)
    {oc8 kV8 dc8 pm8 cd8 ct8 : Value}
    {a8 : Addr} {od8 an8 : Option Addr} {sl8 : Array (Option Value)}
    (n8 : PySem.W.nsIn K mainGlobals "turned_all" = some (some (.ref a8)))
    (l8 : K.lookup a8 = some ⟨oc8, od8, .func (PySem.W.fnOf "turned_all" "turned_all" (defArgs s_turned_all) (defBody s_turned_all) (defScope s_turned_all) .none kV8 dc8 pm8 an8 cd8 ct8), sl8⟩)
    (c8 : PySem.W.codeIn K cd8 "turned_all" = true)
    (k8 : PySem.W.keepIn K (.ref a8) = true)
    {oc9 kV9 dc9 pm9 cd9 ct9 : Value}
    {a9 : Addr} {od9 an9 : Option Addr} {sl9 : Array (Option Value)}
    (n9 : PySem.W.findIn K (.ref c_Assembly) "pieces" = some (some (.ref a9)))
    (i9 : PySem.W.isFn K (.ref a9) = true)
    (l9 : K.lookup a9 = some ⟨oc9, od9, .func (PySem.W.fnOf "pieces" "Assembly.pieces" (defArgs s_Assembly_pieces) (defBody s_Assembly_pieces) (defScope s_Assembly_pieces) .none kV9 dc9 pm9 an9 cd9 ct9), sl9⟩)
    (c9 : PySem.W.codeIn K cd9 "Assembly.pieces" = true)
    (k9 : PySem.W.keepIn K (.ref a9) = true)
    {oc10 kV10 dc10 pm10 cd10 ct10 : Value}
    {a10 : Addr} {od10 an10 : Option Addr} {sl10 : Array (Option Value)}
    (n10 : PySem.W.nsIn K mainGlobals "solids_of" = some (some (.ref a10)))
    (l10 : K.lookup a10 = some ⟨oc10, od10, .func (PySem.W.fnOf "solids_of" "solids_of" (defArgs s_solids_of) (defBody s_solids_of) (defScope s_solids_of) .none kV10 dc10 pm10 an10 cd10 ct10), sl10⟩)
    (c10 : PySem.W.codeIn K cd10 "solids_of" = true)
    (k10 : PySem.W.keepIn K (.ref a10) = true)
    {oc11 kV11 dc11 pm11 cd11 ct11 : Value}
    {a11 : Addr} {od11 an11 : Option Addr} {sl11 : Array (Option Value)}
    (n11 : PySem.W.nsIn K mainGlobals "form_of" = some (some (.ref a11)))
    (l11 : K.lookup a11 = some ⟨oc11, od11, .func (PySem.W.fnOf "form_of" "form_of" (defArgs s_form_of) (defBody s_form_of) (defScope s_form_of) .none kV11 dc11 pm11 an11 cd11 ct11), sl11⟩)
    (c11 : PySem.W.codeIn K cd11 "form_of" = true)
    (k11 : PySem.W.keepIn K (.ref a11) = true)
    {oc12 kV12 dc12 pm12 cd12 ct12 : Value}
    {a12 : Addr} {od12 an12 : Option Addr} {sl12 : Array (Option Value)}
    (n12 : PySem.W.nsIn K mainGlobals "alike" = some (some (.ref a12)))
    (l12 : K.lookup a12 = some ⟨oc12, od12, .func (PySem.W.fnOf "alike" "alike" (defArgs s_alike) (defBody s_alike) (defScope s_alike) .none kV12 dc12 pm12 an12 cd12 ct12), sl12⟩)
    (c12 : PySem.W.codeIn K cd12 "alike" = true)
    (k12 : PySem.W.keepIn K (.ref a12) = true)
    {oc13 kV13 dc13 pm13 cd13 ct13 : Value}
    {a13 : Addr} {od13 an13 : Option Addr} {sl13 : Array (Option Value)}
    (n13 : PySem.W.findIn K (.ref c_Assembly) "names" = some (some (.ref a13)))
    (i13 : PySem.W.isFn K (.ref a13) = true)
    (l13 : K.lookup a13 = some ⟨oc13, od13, .func (PySem.W.fnOf "names" "Assembly.names" (defArgs s_Assembly_names) (defBody s_Assembly_names) (defScope s_Assembly_names) .none kV13 dc13 pm13 an13 cd13 ct13), sl13⟩)
    (c13 : PySem.W.codeIn K cd13 "Assembly.names" = true)
    (k13 : PySem.W.keepIn K (.ref a13) = true)
    {oc14 kV14 dc14 pm14 cd14 ct14 : Value}
    {a14 : Addr} {od14 an14 : Option Addr} {sl14 : Array (Option Value)}
    (n14 : PySem.W.nsIn K mainGlobals "likeness" = some (some (.ref a14)))
    (l14 : K.lookup a14 = some ⟨oc14, od14, .func (PySem.W.fnOf "likeness" "likeness" (defArgs s_likeness) (defBody s_likeness) (defScope s_likeness) .none kV14 dc14 pm14 an14 cd14 ct14), sl14⟩)
    (c14 : PySem.W.codeIn K cd14 "likeness" = true)
    (k14 : PySem.W.keepIn K (.ref a14) = true)
    {oc15 kV15 dc15 pm15 cd15 ct15 : Value}
    {a15 : Addr} {od15 an15 : Option Addr} {sl15 : Array (Option Value)}
    (n15 : PySem.W.findIn K (.ref c_PieceError) "__init__" = some (some (.ref a15)))
    (i15 : PySem.W.isFn K (.ref a15) = true)
    {dT15 : Addr} {ocT15 : Value} {odT15 : Option Addr} {oslT15 : Array (Option Value)} {nT15 : Nat} {itT15 : Array Value}
    (l15 : K.lookup a15 = some ⟨oc15, od15, .func (PySem.W.fnOf "__init__" "PieceError.__init__" (defArgs s_PieceError___init__) (defBody s_PieceError___init__) (defScope s_PieceError___init__) (.ref dT15) kV15 dc15 pm15 an15 cd15 ct15), sl15⟩)
    (lT15 : K.lookup dT15 = some ⟨ocT15, odT15, .seq itT15 nT15, oslT15⟩) (yT15 : itT15 = #[Value.none])
    (c15 : PySem.W.codeIn K cd15 "PieceError.__init__" = true)
    (k15 : PySem.W.keepIn K (.ref a15) = true)
    {oc16 kV16 dc16 pm16 cd16 ct16 : Value}
    {a16 : Addr} {od16 an16 : Option Addr} {sl16 : Array (Option Value)}
    (n16 : PySem.W.findIn K (.ref c_BadCount) "__init__" = some (some (.ref a16)))
    (i16 : PySem.W.isFn K (.ref a16) = true)
    {dT16 : Addr} {ocT16 : Value} {odT16 : Option Addr} {oslT16 : Array (Option Value)} {nT16 : Nat} {itT16 : Array Value}
    (l16 : K.lookup a16 = some ⟨oc16, od16, .func (PySem.W.fnOf "__init__" "BadCount.__init__" (defArgs s_BadCount___init__) (defBody s_BadCount___init__) (defScope s_BadCount___init__) (.ref dT16) kV16 dc16 pm16 an16 cd16 ct16), sl16⟩)
    (lT16 : K.lookup dT16 = some ⟨ocT16, odT16, .seq itT16 nT16, oslT16⟩) (yT16 : itT16 = #[Value.none])
    (c16 : PySem.W.codeIn K cd16 "BadCount.__init__" = true)
    (k16 : PySem.W.keepIn K (.ref a16) = true)
    {oc17 kV17 dc17 pm17 cd17 ct17 : Value}
    {a17 : Addr} {od17 an17 : Option Addr} {sl17 : Array (Option Value)}
    (n17 : PySem.W.findIn K (.ref c_BadName) "__init__" = some (some (.ref a17)))
    (i17 : PySem.W.isFn K (.ref a17) = true)
    {dT17 : Addr} {ocT17 : Value} {odT17 : Option Addr} {oslT17 : Array (Option Value)} {nT17 : Nat} {itT17 : Array Value}
    (l17 : K.lookup a17 = some ⟨oc17, od17, .func (PySem.W.fnOf "__init__" "BadName.__init__" (defArgs s_BadName___init__) (defBody s_BadName___init__) (defScope s_BadName___init__) (.ref dT17) kV17 dc17 pm17 an17 cd17 ct17), sl17⟩)
    (lT17 : K.lookup dT17 = some ⟨ocT17, odT17, .seq itT17 nT17, oslT17⟩) (yT17 : itT17 = #[Value.none])
    (c17 : PySem.W.codeIn K cd17 "BadName.__init__" = true)
    (k17 : PySem.W.keepIn K (.ref a17) = true)
    {oc18 kV18 dc18 pm18 cd18 ct18 : Value}
    {a18 : Addr} {od18 an18 : Option Addr} {sl18 : Array (Option Value)}
    (n18 : PySem.W.findIn K (.ref c_BadSolid) "__init__" = some (some (.ref a18)))
    (i18 : PySem.W.isFn K (.ref a18) = true)
    {dT18 : Addr} {ocT18 : Value} {odT18 : Option Addr} {oslT18 : Array (Option Value)} {nT18 : Nat} {itT18 : Array Value}
    (l18 : K.lookup a18 = some ⟨oc18, od18, .func (PySem.W.fnOf "__init__" "BadSolid.__init__" (defArgs s_BadSolid___init__) (defBody s_BadSolid___init__) (defScope s_BadSolid___init__) (.ref dT18) kV18 dc18 pm18 an18 cd18 ct18), sl18⟩)
    (lT18 : K.lookup dT18 = some ⟨ocT18, odT18, .seq itT18 nT18, oslT18⟩) (yT18 : itT18 = #[Value.none])
    (c18 : PySem.W.codeIn K cd18 "BadSolid.__init__" = true)
    (k18 : PySem.W.keepIn K (.ref a18) = true)
    {oc19 kV19 dc19 pm19 cd19 ct19 : Value}
    {a19 : Addr} {od19 an19 : Option Addr} {sl19 : Array (Option Value)}
    (n19 : PySem.W.findIn K (.ref c_SameName) "__init__" = some (some (.ref a19)))
    (i19 : PySem.W.isFn K (.ref a19) = true)
    {dT19 : Addr} {ocT19 : Value} {odT19 : Option Addr} {oslT19 : Array (Option Value)} {nT19 : Nat} {itT19 : Array Value}
    (l19 : K.lookup a19 = some ⟨oc19, od19, .func (PySem.W.fnOf "__init__" "SameName.__init__" (defArgs s_SameName___init__) (defBody s_SameName___init__) (defScope s_SameName___init__) (.ref dT19) kV19 dc19 pm19 an19 cd19 ct19), sl19⟩)
    (lT19 : K.lookup dT19 = some ⟨ocT19, odT19, .seq itT19 nT19, oslT19⟩) (yT19 : itT19 = #[Value.none])
    (c19 : PySem.W.codeIn K cd19 "SameName.__init__" = true)
    (k19 : PySem.W.keepIn K (.ref a19) = true)
    {oc20 kV20 dc20 pm20 cd20 ct20 : Value}
    {a20 : Addr} {od20 an20 : Option Addr} {sl20 : Array (Option Value)}
    (n20 : PySem.W.findIn K (.ref c_Overlap) "__init__" = some (some (.ref a20)))
    (i20 : PySem.W.isFn K (.ref a20) = true)
    {dT20 : Addr} {ocT20 : Value} {odT20 : Option Addr} {oslT20 : Array (Option Value)} {nT20 : Nat} {itT20 : Array Value}
    (l20 : K.lookup a20 = some ⟨oc20, od20, .func (PySem.W.fnOf "__init__" "Overlap.__init__" (defArgs s_Overlap___init__) (defBody s_Overlap___init__) (defScope s_Overlap___init__) (.ref dT20) kV20 dc20 pm20 an20 cd20 ct20), sl20⟩)
    (lT20 : K.lookup dT20 = some ⟨ocT20, odT20, .seq itT20 nT20, oslT20⟩) (yT20 : itT20 = #[Value.none])
    (c20 : PySem.W.codeIn K cd20 "Overlap.__init__" = true)
    (k20 : PySem.W.keepIn K (.ref a20) = true)
    {oc21 kV21 dc21 pm21 cd21 ct21 : Value}
    {a21 : Addr} {od21 an21 : Option Addr} {sl21 : Array (Option Value)}
    (n21 : PySem.W.nsIn K mainGlobals "is_name" = some (some (.ref a21)))
    (l21 : K.lookup a21 = some ⟨oc21, od21, .func (PySem.W.fnOf "is_name" "is_name" (defArgs s_is_name) (defBody s_is_name) (defScope s_is_name) .none kV21 dc21 pm21 an21 cd21 ct21), sl21⟩)
    (c21 : PySem.W.codeIn K cd21 "is_name" = true)
    (k21 : PySem.W.keepIn K (.ref a21) = true)
    {oc22 kV22 dc22 pm22 cd22 ct22 : Value}
    {a22 : Addr} {od22 an22 : Option Addr} {sl22 : Array (Option Value)}
    (n22 : PySem.W.findIn K (.ref c_Assembly) "_add_piece" = some (some (.ref a22)))
    (i22 : PySem.W.isFn K (.ref a22) = true)
    (l22 : K.lookup a22 = some ⟨oc22, od22, .func (PySem.W.fnOf "_add_piece" "Assembly._add_piece" (defArgs s_Assembly__add_piece) (defBody s_Assembly__add_piece) (defScope s_Assembly__add_piece) .none kV22 dc22 pm22 an22 cd22 ct22), sl22⟩)
    (c22 : PySem.W.codeIn K cd22 "Assembly._add_piece" = true)
    (k22 : PySem.W.keepIn K (.ref a22) = true)
    {oc23 kV23 dc23 pm23 cd23 ct23 : Value}
    {a23 : Addr} {od23 an23 : Option Addr} {sl23 : Array (Option Value)}
    (n23 : PySem.W.findIn K (.ref c_Assembly) "__init__" = some (some (.ref a23)))
    (i23 : PySem.W.isFn K (.ref a23) = true)
    (l23 : K.lookup a23 = some ⟨oc23, od23, .func (PySem.W.fnOf "__init__" "Assembly.__init__" (defArgs s_Assembly___init__) (defBody s_Assembly___init__) (defScope s_Assembly___init__) .none kV23 dc23 pm23 an23 cd23 ct23), sl23⟩)
    (c23 : PySem.W.codeIn K cd23 "Assembly.__init__" = true)
    (k23 : PySem.W.keepIn K (.ref a23) = true)
    {oc24 kV24 dc24 pm24 cd24 ct24 : Value}
    {a24 : Addr} {od24 an24 : Option Addr} {sl24 : Array (Option Value)}
    (n24 : PySem.W.nsIn K mainGlobals "_law_deck" = some (some (.ref a24)))
    (l24 : K.lookup a24 = some ⟨oc24, od24, .func (PySem.W.fnOf "_law_deck" "_law_deck" (defArgs s_law_deck) (defBody s_law_deck) (defScope s_law_deck) .none kV24 dc24 pm24 an24 cd24 ct24), sl24⟩)
    (c24 : PySem.W.codeIn K cd24 "_law_deck" = true)
    (k24 : PySem.W.keepIn K (.ref a24) = true)
    {oc25 kV25 dc25 pm25 cd25 ct25 : Value}
    {a25 : Addr} {od25 an25 : Option Addr} {sl25 : Array (Option Value)}
    (n25 : PySem.W.nsIn K mainGlobals "_law_draw" = some (some (.ref a25)))
    (l25 : K.lookup a25 = some ⟨oc25, od25, .func (PySem.W.fnOf "_law_draw" "_law_draw" (defArgs s_law_draw) (defBody s_law_draw) (defScope s_law_draw) .none kV25 dc25 pm25 an25 cd25 ct25), sl25⟩)
    (c25 : PySem.W.codeIn K cd25 "_law_draw" = true)
    (k25 : PySem.W.keepIn K (.ref a25) = true)
    {oc26 kV26 dc26 pm26 cd26 ct26 : Value}
    {a26 : Addr} {od26 an26 : Option Addr} {sl26 : Array (Option Value)}
    (n26 : PySem.W.nsIn K mainGlobals "_law_beside" = some (some (.ref a26)))
    (l26 : K.lookup a26 = some ⟨oc26, od26, .func (PySem.W.fnOf "_law_beside" "_law_beside" (defArgs s_law_beside) (defBody s_law_beside) (defScope s_law_beside) .none kV26 dc26 pm26 an26 cd26 ct26), sl26⟩)
    (c26 : PySem.W.codeIn K cd26 "_law_beside" = true)
    (k26 : PySem.W.keepIn K (.ref a26) = true)
    {oc27 kV27 dc27 pm27 cd27 ct27 : Value}
    {a27 : Addr} {od27 an27 : Option Addr} {sl27 : Array (Option Value)}
    (n27 : PySem.W.nsIn K mainGlobals "_law_names" = some (some (.ref a27)))
    (l27 : K.lookup a27 = some ⟨oc27, od27, .func (PySem.W.fnOf "_law_names" "_law_names" (defArgs s_law_names) (defBody s_law_names) (defScope s_law_names) .none kV27 dc27 pm27 an27 cd27 ct27), sl27⟩)
    (c27 : PySem.W.codeIn K cd27 "_law_names" = true)
    (k27 : PySem.W.keepIn K (.ref a27) = true)
    {oc28 kV28 dc28 pm28 cd28 ct28 : Value}
    {a28 : Addr} {od28 an28 : Option Addr} {sl28 : Array (Option Value)}
    (n28 : PySem.W.nsIn K mainGlobals "_law_lump" = some (some (.ref a28)))
    (l28 : K.lookup a28 = some ⟨oc28, od28, .func (PySem.W.fnOf "_law_lump" "_law_lump" (defArgs s_law_lump) (defBody s_law_lump) (defScope s_law_lump) .none kV28 dc28 pm28 an28 cd28 ct28), sl28⟩)
    (c28 : PySem.W.codeIn K cd28 "_law_lump" = true)
    (k28 : PySem.W.keepIn K (.ref a28) = true)
    {oc29 kV29 dc29 pm29 cd29 ct29 : Value}
    {a29 : Addr} {od29 an29 : Option Addr} {sl29 : Array (Option Value)}
    (n29 : PySem.W.nsIn K mainGlobals "_law_few" = some (some (.ref a29)))
    (l29 : K.lookup a29 = some ⟨oc29, od29, .func (PySem.W.fnOf "_law_few" "_law_few" (defArgs s_law_few) (defBody s_law_few) (defScope s_law_few) .none kV29 dc29 pm29 an29 cd29 ct29), sl29⟩)
    (c29 : PySem.W.codeIn K cd29 "_law_few" = true)
    (k29 : PySem.W.keepIn K (.ref a29) = true)
    {oc30 kV30 dc30 pm30 cd30 ct30 : Value}
    {a30 : Addr} {od30 an30 : Option Addr} {sl30 : Array (Option Value)}
    (n30 : PySem.W.nsIn K mainGlobals "_law_row_of" = some (some (.ref a30)))
    (l30 : K.lookup a30 = some ⟨oc30, od30, .func (PySem.W.fnOf "_law_row_of" "_law_row_of" (defArgs s_law_row_of) (defBody s_law_row_of) (defScope s_law_row_of) .none kV30 dc30 pm30 an30 cd30 ct30), sl30⟩)
    (c30 : PySem.W.codeIn K cd30 "_law_row_of" = true)
    (k30 : PySem.W.keepIn K (.ref a30) = true)
    {oc31 kV31 dc31 pm31 cd31 ct31 : Value}
    {a31 : Addr} {od31 an31 : Option Addr} {sl31 : Array (Option Value)}
    (n31 : PySem.W.nsIn K mainGlobals "_law_turns" = some (some (.ref a31)))
    (l31 : K.lookup a31 = some ⟨oc31, od31, .func (PySem.W.fnOf "_law_turns" "_law_turns" (defArgs s_law_turns) (defBody s_law_turns) (defScope s_law_turns) .none kV31 dc31 pm31 an31 cd31 ct31), sl31⟩)
    (c31 : PySem.W.codeIn K cd31 "_law_turns" = true)
    (k31 : PySem.W.keepIn K (.ref a31) = true)
    {oc32 kV32 dc32 pm32 cd32 ct32 : Value}
    {a32 : Addr} {od32 an32 : Option Addr} {sl32 : Array (Option Value)}
    (n32 : PySem.W.nsIn K mainGlobals "_law_image" = some (some (.ref a32)))
    (l32 : K.lookup a32 = some ⟨oc32, od32, .func (PySem.W.fnOf "_law_image" "_law_image" (defArgs s_law_image) (defBody s_law_image) (defScope s_law_image) .none kV32 dc32 pm32 an32 cd32 ct32), sl32⟩)
    (c32 : PySem.W.codeIn K cd32 "_law_image" = true)
    (k32 : PySem.W.keepIn K (.ref a32) = true)
    {oc33 kV33 dc33 pm33 cd33 ct33 : Value}
    {a33 : Addr} {od33 an33 : Option Addr} {sl33 : Array (Option Value)}
    (n33 : PySem.W.nsIn K mainGlobals "_law_shifted" = some (some (.ref a33)))
    (l33 : K.lookup a33 = some ⟨oc33, od33, .func (PySem.W.fnOf "_law_shifted" "_law_shifted" (defArgs s_law_shifted) (defBody s_law_shifted) (defScope s_law_shifted) .none kV33 dc33 pm33 an33 cd33 ct33), sl33⟩)
    (c33 : PySem.W.codeIn K cd33 "_law_shifted" = true)
    (k33 : PySem.W.keepIn K (.ref a33) = true)
    {oc34 kV34 dc34 pm34 cd34 ct34 : Value}
    {a34 : Addr} {od34 an34 : Option Addr} {sl34 : Array (Option Value)}
    (n34 : PySem.W.nsIn K mainGlobals "_law_turned" = some (some (.ref a34)))
    (l34 : K.lookup a34 = some ⟨oc34, od34, .func (PySem.W.fnOf "_law_turned" "_law_turned" (defArgs s_law_turned) (defBody s_law_turned) (defScope s_law_turned) .none kV34 dc34 pm34 an34 cd34 ct34), sl34⟩)
    (c34 : PySem.W.codeIn K cd34 "_law_turned" = true)
    (k34 : PySem.W.keepIn K (.ref a34) = true)
    {oc35 kV35 dc35 pm35 cd35 ct35 : Value}
    {a35 : Addr} {od35 an35 : Option Addr} {sl35 : Array (Option Value)}
    (n35 : PySem.W.nsIn K mainGlobals "_law_mixed" = some (some (.ref a35)))
    (l35 : K.lookup a35 = some ⟨oc35, od35, .func (PySem.W.fnOf "_law_mixed" "_law_mixed" (defArgs s_law_mixed) (defBody s_law_mixed) (defScope s_law_mixed) .none kV35 dc35 pm35 an35 cd35 ct35), sl35⟩)
    (c35 : PySem.W.codeIn K cd35 "_law_mixed" = true)
    (k35 : PySem.W.keepIn K (.ref a35) = true)
    {oc36 kV36 dc36 pm36 cd36 ct36 : Value}
    {a36 : Addr} {od36 an36 : Option Addr} {sl36 : Array (Option Value)}
    (n36 : PySem.W.nsIn K mainGlobals "_law_moved" = some (some (.ref a36)))
    (l36 : K.lookup a36 = some ⟨oc36, od36, .func (PySem.W.fnOf "_law_moved" "_law_moved" (defArgs s_law_moved) (defBody s_law_moved) (defScope s_law_moved) .none kV36 dc36 pm36 an36 cd36 ct36), sl36⟩)
    (c36 : PySem.W.codeIn K cd36 "_law_moved" = true)
    (k36 : PySem.W.keepIn K (.ref a36) = true)
    {oc37 kV37 dc37 pm37 cd37 ct37 : Value}
    {a37 : Addr} {od37 an37 : Option Addr} {sl37 : Array (Option Value)}
    (n37 : PySem.W.nsIn K mainGlobals "_law_copy" = some (some (.ref a37)))
    (l37 : K.lookup a37 = some ⟨oc37, od37, .func (PySem.W.fnOf "_law_copy" "_law_copy" (defArgs s_law_copy) (defBody s_law_copy) (defScope s_law_copy) .none kV37 dc37 pm37 an37 cd37 ct37), sl37⟩)
    (c37 : PySem.W.codeIn K cd37 "_law_copy" = true)
    (k37 : PySem.W.keepIn K (.ref a37) = true)
    {oc38 kV38 dc38 pm38 cd38 ct38 : Value}
    {a38 : Addr} {od38 an38 : Option Addr} {sl38 : Array (Option Value)}
    (n38 : PySem.W.nsIn K mainGlobals "_law_likeness" = some (some (.ref a38)))
    (l38 : K.lookup a38 = some ⟨oc38, od38, .func (PySem.W.fnOf "_law_likeness" "_law_likeness" (defArgs s_law_likeness) (defBody s_law_likeness) (defScope s_law_likeness) .none kV38 dc38 pm38 an38 cd38 ct38), sl38⟩)
    (c38 : PySem.W.codeIn K cd38 "_law_likeness" = true)
    (k38 : PySem.W.keepIn K (.ref a38) = true)
    {oc39 kV39 dc39 pm39 cd39 ct39 : Value}
    {a39 : Addr} {od39 an39 : Option Addr} {sl39 : Array (Option Value)}
    (n39 : PySem.W.nsIn K mainGlobals "_law_same" = some (some (.ref a39)))
    (l39 : K.lookup a39 = some ⟨oc39, od39, .func (PySem.W.fnOf "_law_same" "_law_same" (defArgs s_law_same) (defBody s_law_same) (defScope s_law_same) .none kV39 dc39 pm39 an39 cd39 ct39), sl39⟩)
    (c39 : PySem.W.codeIn K cd39 "_law_same" = true)
    (k39 : PySem.W.keepIn K (.ref a39) = true)
    {oc40 kV40 dc40 pm40 cd40 ct40 : Value}
    {a40 : Addr} {od40 an40 : Option Addr} {sl40 : Array (Option Value)}
    (n40 : PySem.W.nsIn K mainGlobals "law" = some (some (.ref a40)))
    (l40 : K.lookup a40 = some ⟨oc40, od40, .func (PySem.W.fnOf "law" "law" (defArgs s_law) (defBody s_law) (defScope s_law) .none kV40 dc40 pm40 an40 cd40 ct40), sl40⟩)
    (c40 : PySem.W.codeIn K cd40 "law" = true)
    (k40 : PySem.W.keepIn K (.ref a40) = true)
    (y_er_PieceError : errB K (c_PieceError) = true)
    (y_er_BadCount : errB K (c_BadCount) = true)
    (y_er_BadName : errB K (c_BadName) = true)
    (y_er_BadSolid : errB K (c_BadSolid) = true)
    (y_er_SameName : errB K (c_SameName) = true)
    (y_er_Overlap : errB K (c_Overlap) = true)
    (y_ti_BadCount : PySem.W.typeIn K (.ref (a16)) = some (.type "function"))
    (y_ti_BadName : PySem.W.typeIn K (.ref (a17)) = some (.type "function"))
    (y_ti_BadSolid : PySem.W.typeIn K (.ref (a18)) = some (.type "function"))
    (y_ti_SameName : PySem.W.typeIn K (.ref (a19)) = some (.type "function"))
    (y_ti_Overlap : PySem.W.typeIn K (.ref (a20)) = some (.type "function"))
    (y_rd_PE : PySem.W.readsIn K (c_PieceError) (.type "type") = true)
    (y_sg_PE : PySem.W.specialIn K (.ref (c_PieceError)) "__getattribute__" = some (some (.builtin "type.__getattribute__")))
    (y_fc_PE : PySem.W.findCls K (.ref (c_PieceError)) (.type "type") "__init__" = some (.val (.ref (a15))))
    (y_hh_PE : PySem.W.handedIn (.ref (a15)) = true)
    {t_CELLS_MOST : Tok}
    (z_CELLS_MOST : PySem.W.nsIn K mainGlobals "CELLS_MOST" = some (some (.int 40 t_CELLS_MOST)))
    {t_COORDINATE_MOST : Tok}
    (z_COORDINATE_MOST : PySem.W.nsIn K mainGlobals "COORDINATE_MOST" = some (some (.int 15 t_COORDINATE_MOST)))
    {t_NAME_LETTERS : Tok}
    (z_NAME_LETTERS : PySem.W.nsIn K mainGlobals "NAME_LETTERS" = some (some (.str "abcdefghijklmnopqrstuvwxyz" t_NAME_LETTERS)))
    {t_NAME_MOST : Tok}
    (z_NAME_MOST : PySem.W.nsIn K mainGlobals "NAME_MOST" = some (some (.int 8 t_NAME_MOST)))
    {u_NO_TURN : Value}
    (z_NO_TURN : PySem.W.nsIn K mainGlobals "NO_TURN" = some (some u_NO_TURN))
    (y_NO_TURN : kD K cNO_TURN u_NO_TURN = true)
    {t_PIECES_MOST : Tok}
    (z_PIECES_MOST : PySem.W.nsIn K mainGlobals "PIECES_MOST" = some (some (.int 6 t_PIECES_MOST)))
    {u_TURNS : Value}
    (z_TURNS : PySem.W.nsIn K mainGlobals "TURNS" = some (some u_TURNS))
    (y_TURNS : kD K cTURNS u_TURNS = true)
    (z_abs : PySem.W.nsIn K mainGlobals "abs" = some none)
    (z_all : PySem.W.nsIn K mainGlobals "all" = some none)
    (z_any : PySem.W.nsIn K mainGlobals "any" = some none)
    (z_bool : PySem.W.nsIn K mainGlobals "bool" = some none)
    (z_enumerate : PySem.W.nsIn K mainGlobals "enumerate" = some none)
    (z_int : PySem.W.nsIn K mainGlobals "int" = some none)
    (z_isinstance : PySem.W.nsIn K mainGlobals "isinstance" = some none)
    (z_len : PySem.W.nsIn K mainGlobals "len" = some none)
    (z_list : PySem.W.nsIn K mainGlobals "list" = some none)
    (z_max : PySem.W.nsIn K mainGlobals "max" = some none)
    (z_min : PySem.W.nsIn K mainGlobals "min" = some none)
    (z_range : PySem.W.nsIn K mainGlobals "range" = some none)
    (z_repr : PySem.W.nsIn K mainGlobals "repr" = some none)
    (z_sorted : PySem.W.nsIn K mainGlobals "sorted" = some none)
    (z_str : PySem.W.nsIn K mainGlobals "str" = some none)
    (z_tuple : PySem.W.nsIn K mainGlobals "tuple" = some none)
    (z_zip : PySem.W.nsIn K mainGlobals "zip" = some none)
    (y_nc : noCell K = true) :
    ∃ fd : FuncData, (∀ (s : Shared) (v : Value), BindsTo s fd ⟨[v], []⟩ [("script", v)]) ∧ ∀ base : Heap, K.In base → base.Ns mainGlobals mg → DFn l.prog w K mg base 7 fa fd ["script"] sp_law := by
  have e : fa = a40 := by
    have e := hfa.symm.trans (PySem.W.mg_of X G n40)
    cases e
    rfl
  rw [e]
  have T : Txt K mg (fun i => [c_Assembly, 0, 0, c_PieceError, c_BadCount, c_BadName, c_BadSolid, c_SameName, c_Overlap, 0, 0, 0, 0, 0, 0, 0, 0, 0, 0, 0].getD i 0) (fun i => [a0, a1, a2, a3, a4, a5, a6, a7, a8, a9, a10, a11, a12, a13, a14, a15, a16, a17, a18, a19, a20, a21, a22, a23, a24, a25, a26, a27, a28, a29, a30, a31, a32, a33, a34, a35, a36, a37, a38, a39, a40].getD i 0) (fun i => [PySem.W.fnOf "is_integer" "is_integer" (defArgs s_is_integer) (defBody s_is_integer) (defScope s_is_integer) .none kV0 dc0 pm0 an0 cd0 ct0, PySem.W.fnOf "is_cell" "is_cell" (defArgs s_is_cell) (defBody s_is_cell) (defScope s_is_cell) .none kV1 dc1 pm1 an1 cd1 ct1, PySem.W.fnOf "beside" "beside" (defArgs s_beside) (defBody s_beside) (defScope s_beside) .none kV2 dc2 pm2 an2 cd2 ct2, PySem.W.fnOf "hang_together" "hang_together" (defArgs s_hang_together) (defBody s_hang_together) (defScope s_hang_together) .none kV3 dc3 pm3 an3 cd3 ct3, PySem.W.fnOf "is_solid" "is_solid" (defArgs s_is_solid) (defBody s_is_solid) (defScope s_is_solid) .none kV4 dc4 pm4 an4 cd4 ct4, PySem.W.fnOf "extents" "extents" (defArgs s_extents) (defBody s_extents) (defScope s_extents) .none kV5 dc5 pm5 an5 cd5 ct5, PySem.W.fnOf "moved" "moved" (defArgs s_moved) (defBody s_moved) (defScope s_moved) .none kV6 dc6 pm6 an6 cd6 ct6, PySem.W.fnOf "image_of" "image_of" (defArgs s_image_of) (defBody s_image_of) (defScope s_image_of) .none kV7 dc7 pm7 an7 cd7 ct7, PySem.W.fnOf "turned_all" "turned_all" (defArgs s_turned_all) (defBody s_turned_all) (defScope s_turned_all) .none kV8 dc8 pm8 an8 cd8 ct8, PySem.W.fnOf "pieces" "Assembly.pieces" (defArgs s_Assembly_pieces) (defBody s_Assembly_pieces) (defScope s_Assembly_pieces) .none kV9 dc9 pm9 an9 cd9 ct9, PySem.W.fnOf "solids_of" "solids_of" (defArgs s_solids_of) (defBody s_solids_of) (defScope s_solids_of) .none kV10 dc10 pm10 an10 cd10 ct10, PySem.W.fnOf "form_of" "form_of" (defArgs s_form_of) (defBody s_form_of) (defScope s_form_of) .none kV11 dc11 pm11 an11 cd11 ct11, PySem.W.fnOf "alike" "alike" (defArgs s_alike) (defBody s_alike) (defScope s_alike) .none kV12 dc12 pm12 an12 cd12 ct12, PySem.W.fnOf "names" "Assembly.names" (defArgs s_Assembly_names) (defBody s_Assembly_names) (defScope s_Assembly_names) .none kV13 dc13 pm13 an13 cd13 ct13, PySem.W.fnOf "likeness" "likeness" (defArgs s_likeness) (defBody s_likeness) (defScope s_likeness) .none kV14 dc14 pm14 an14 cd14 ct14, PySem.W.fnOf "__init__" "PieceError.__init__" (defArgs s_PieceError___init__) (defBody s_PieceError___init__) (defScope s_PieceError___init__) (.ref dT15) kV15 dc15 pm15 an15 cd15 ct15, PySem.W.fnOf "__init__" "BadCount.__init__" (defArgs s_BadCount___init__) (defBody s_BadCount___init__) (defScope s_BadCount___init__) (.ref dT16) kV16 dc16 pm16 an16 cd16 ct16, PySem.W.fnOf "__init__" "BadName.__init__" (defArgs s_BadName___init__) (defBody s_BadName___init__) (defScope s_BadName___init__) (.ref dT17) kV17 dc17 pm17 an17 cd17 ct17, PySem.W.fnOf "__init__" "BadSolid.__init__" (defArgs s_BadSolid___init__) (defBody s_BadSolid___init__) (defScope s_BadSolid___init__) (.ref dT18) kV18 dc18 pm18 an18 cd18 ct18, PySem.W.fnOf "__init__" "SameName.__init__" (defArgs s_SameName___init__) (defBody s_SameName___init__) (defScope s_SameName___init__) (.ref dT19) kV19 dc19 pm19 an19 cd19 ct19, PySem.W.fnOf "__init__" "Overlap.__init__" (defArgs s_Overlap___init__) (defBody s_Overlap___init__) (defScope s_Overlap___init__) (.ref dT20) kV20 dc20 pm20 an20 cd20 ct20, PySem.W.fnOf "is_name" "is_name" (defArgs s_is_name) (defBody s_is_name) (defScope s_is_name) .none kV21 dc21 pm21 an21 cd21 ct21, PySem.W.fnOf "_add_piece" "Assembly._add_piece" (defArgs s_Assembly__add_piece) (defBody s_Assembly__add_piece) (defScope s_Assembly__add_piece) .none kV22 dc22 pm22 an22 cd22 ct22, PySem.W.fnOf "__init__" "Assembly.__init__" (defArgs s_Assembly___init__) (defBody s_Assembly___init__) (defScope s_Assembly___init__) .none kV23 dc23 pm23 an23 cd23 ct23, PySem.W.fnOf "_law_deck" "_law_deck" (defArgs s_law_deck) (defBody s_law_deck) (defScope s_law_deck) .none kV24 dc24 pm24 an24 cd24 ct24, PySem.W.fnOf "_law_draw" "_law_draw" (defArgs s_law_draw) (defBody s_law_draw) (defScope s_law_draw) .none kV25 dc25 pm25 an25 cd25 ct25, PySem.W.fnOf "_law_beside" "_law_beside" (defArgs s_law_beside) (defBody s_law_beside) (defScope s_law_beside) .none kV26 dc26 pm26 an26 cd26 ct26, PySem.W.fnOf "_law_names" "_law_names" (defArgs s_law_names) (defBody s_law_names) (defScope s_law_names) .none kV27 dc27 pm27 an27 cd27 ct27, PySem.W.fnOf "_law_lump" "_law_lump" (defArgs s_law_lump) (defBody s_law_lump) (defScope s_law_lump) .none kV28 dc28 pm28 an28 cd28 ct28, PySem.W.fnOf "_law_few" "_law_few" (defArgs s_law_few) (defBody s_law_few) (defScope s_law_few) .none kV29 dc29 pm29 an29 cd29 ct29, PySem.W.fnOf "_law_row_of" "_law_row_of" (defArgs s_law_row_of) (defBody s_law_row_of) (defScope s_law_row_of) .none kV30 dc30 pm30 an30 cd30 ct30, PySem.W.fnOf "_law_turns" "_law_turns" (defArgs s_law_turns) (defBody s_law_turns) (defScope s_law_turns) .none kV31 dc31 pm31 an31 cd31 ct31, PySem.W.fnOf "_law_image" "_law_image" (defArgs s_law_image) (defBody s_law_image) (defScope s_law_image) .none kV32 dc32 pm32 an32 cd32 ct32, PySem.W.fnOf "_law_shifted" "_law_shifted" (defArgs s_law_shifted) (defBody s_law_shifted) (defScope s_law_shifted) .none kV33 dc33 pm33 an33 cd33 ct33, PySem.W.fnOf "_law_turned" "_law_turned" (defArgs s_law_turned) (defBody s_law_turned) (defScope s_law_turned) .none kV34 dc34 pm34 an34 cd34 ct34, PySem.W.fnOf "_law_mixed" "_law_mixed" (defArgs s_law_mixed) (defBody s_law_mixed) (defScope s_law_mixed) .none kV35 dc35 pm35 an35 cd35 ct35, PySem.W.fnOf "_law_moved" "_law_moved" (defArgs s_law_moved) (defBody s_law_moved) (defScope s_law_moved) .none kV36 dc36 pm36 an36 cd36 ct36, PySem.W.fnOf "_law_copy" "_law_copy" (defArgs s_law_copy) (defBody s_law_copy) (defScope s_law_copy) .none kV37 dc37 pm37 an37 cd37 ct37, PySem.W.fnOf "_law_likeness" "_law_likeness" (defArgs s_law_likeness) (defBody s_law_likeness) (defScope s_law_likeness) .none kV38 dc38 pm38 an38 cd38 ct38, PySem.W.fnOf "_law_same" "_law_same" (defArgs s_law_same) (defBody s_law_same) (defScope s_law_same) .none kV39 dc39 pm39 an39 cd39 ct39, PySem.W.fnOf "law" "law" (defArgs s_law) (defBody s_law) (defScope s_law) .none kV40 dc40 pm40 an40 cd40 ct40].getD i default) := {
    F_is_integer := fun_mk l0 c0 k0
    g_is_integer := PySem.W.mg_of X G n0
    b_is_integer := (fun_mk (st := s_is_integer) l0 c0 k0).binds (ps := ["value"]) fun _ _ _ _ _ _ us hl => match us, hl with | [_], _ => rfl
    F_is_cell := fun_mk l1 c1 k1
    g_is_cell := PySem.W.mg_of X G n1
    b_is_cell := (fun_mk (st := s_is_cell) l1 c1 k1).binds (ps := ["value"]) fun _ _ _ _ _ _ us hl => match us, hl with | [_], _ => rfl
    F_beside := fun_mk l2 c2 k2
    g_beside := PySem.W.mg_of X G n2
    b_beside := (fun_mk (st := s_beside) l2 c2 k2).binds (ps := ["cell"]) fun _ _ _ _ _ _ us hl => match us, hl with | [_], _ => rfl
    F_hang_together := fun_mk l3 c3 k3
    g_hang_together := PySem.W.mg_of X G n3
    b_hang_together := (fun_mk (st := s_hang_together) l3 c3 k3).binds (ps := ["cells"]) fun _ _ _ _ _ _ us hl => match us, hl with | [_], _ => rfl
    F_is_solid := fun_mk l4 c4 k4
    g_is_solid := PySem.W.mg_of X G n4
    b_is_solid := (fun_mk (st := s_is_solid) l4 c4 k4).binds (ps := ["value"]) fun _ _ _ _ _ _ us hl => match us, hl with | [_], _ => rfl
    F_extents := fun_mk l5 c5 k5
    g_extents := PySem.W.mg_of X G n5
    b_extents := (fun_mk (st := s_extents) l5 c5 k5).binds (ps := ["cells"]) fun _ _ _ _ _ _ us hl => match us, hl with | [_], _ => rfl
    F_moved := fun_mk l6 c6 k6
    g_moved := PySem.W.mg_of X G n6
    b_moved := (fun_mk (st := s_moved) l6 c6 k6).binds (ps := ["cells", "offset"]) fun _ _ _ _ _ _ us hl => match us, hl with | [_, _], _ => rfl
    F_image_of := fun_mk l7 c7 k7
    g_image_of := PySem.W.mg_of X G n7
    b_image_of := (fun_mk (st := s_image_of) l7 c7 k7).binds (ps := ["cell", "turn"]) fun _ _ _ _ _ _ us hl => match us, hl with | [_, _], _ => rfl
    F_turned_all := fun_mk l8 c8 k8
    g_turned_all := PySem.W.mg_of X G n8
    b_turned_all := (fun_mk (st := s_turned_all) l8 c8 k8).binds (ps := ["solids", "turn"]) fun _ _ _ _ _ _ us hl => match us, hl with | [_, _], _ => rfl
    F_Assembly_pieces := fun_mk l9 c9 k9
    b_Assembly_pieces := (fun_mk (st := s_Assembly_pieces) l9 c9 k9).binds (ps := ["self"]) fun _ _ _ _ _ _ us hl => match us, hl with | [_], _ => rfl
    F_solids_of := fun_mk l10 c10 k10
    g_solids_of := PySem.W.mg_of X G n10
    b_solids_of := (fun_mk (st := s_solids_of) l10 c10 k10).binds (ps := ["assembly"]) fun _ _ _ _ _ _ us hl => match us, hl with | [_], _ => rfl
    F_form_of := fun_mk l11 c11 k11
    g_form_of := PySem.W.mg_of X G n11
    b_form_of := (fun_mk (st := s_form_of) l11 c11 k11).binds (ps := ["assembly"]) fun _ _ _ _ _ _ us hl => match us, hl with | [_], _ => rfl
    F_alike := fun_mk l12 c12 k12
    g_alike := PySem.W.mg_of X G n12
    b_alike := (fun_mk (st := s_alike) l12 c12 k12).binds (ps := ["one", "other"]) fun _ _ _ _ _ _ us hl => match us, hl with | [_, _], _ => rfl
    F_Assembly_names := fun_mk l13 c13 k13
    b_Assembly_names := (fun_mk (st := s_Assembly_names) l13 c13 k13).binds (ps := ["self"]) fun _ _ _ _ _ _ us hl => match us, hl with | [_], _ => rfl
    F_likeness := fun_mk l14 c14 k14
    g_likeness := PySem.W.mg_of X G n14
    b_likeness := (fun_mk (st := s_likeness) l14 c14 k14).binds (ps := ["one", "other"]) fun _ _ _ _ _ _ us hl => match us, hl with | [_, _], _ => rfl
    F_PieceError___init__ := funD_mk l15 lT15 yT15 c15 k15
    b1_PieceError___init__ := FunD.binds_one (funD_mk l15 lT15 yT15 c15 k15) 2 rfl fun _ _ _ _ _ _ _ us its hl hi => match us, hl, its, hi with | [_, _], _, [_], _ => ⟨_, rfl, rfl⟩
    b_PieceError___init__ := FunD.binds_all (funD_mk l15 lT15 yT15 c15 k15) fun _ _ _ _ _ _ _ us its hl hi => match us, hl, its, hi with | [_, _, _], _, [_], _ => ⟨_, rfl, rfl⟩
    F_BadCount___init__ := funD_mk l16 lT16 yT16 c16 k16
    b1_BadCount___init__ := FunD.binds_one (funD_mk l16 lT16 yT16 c16 k16) 1 rfl fun _ _ _ _ _ _ _ us its hl hi => match us, hl, its, hi with | [_], _, [_], _ => ⟨_, rfl, rfl⟩
    b_BadCount___init__ := FunD.binds_all (funD_mk l16 lT16 yT16 c16 k16) fun _ _ _ _ _ _ _ us its hl hi => match us, hl, its, hi with | [_, _], _, [_], _ => ⟨_, rfl, rfl⟩
    F_BadName___init__ := funD_mk l17 lT17 yT17 c17 k17
    b1_BadName___init__ := FunD.binds_one (funD_mk l17 lT17 yT17 c17 k17) 1 rfl fun _ _ _ _ _ _ _ us its hl hi => match us, hl, its, hi with | [_], _, [_], _ => ⟨_, rfl, rfl⟩
    b_BadName___init__ := FunD.binds_all (funD_mk l17 lT17 yT17 c17 k17) fun _ _ _ _ _ _ _ us its hl hi => match us, hl, its, hi with | [_, _], _, [_], _ => ⟨_, rfl, rfl⟩
    F_BadSolid___init__ := funD_mk l18 lT18 yT18 c18 k18
    b1_BadSolid___init__ := FunD.binds_one (funD_mk l18 lT18 yT18 c18 k18) 1 rfl fun _ _ _ _ _ _ _ us its hl hi => match us, hl, its, hi with | [_], _, [_], _ => ⟨_, rfl, rfl⟩
    b_BadSolid___init__ := FunD.binds_all (funD_mk l18 lT18 yT18 c18 k18) fun _ _ _ _ _ _ _ us its hl hi => match us, hl, its, hi with | [_, _], _, [_], _ => ⟨_, rfl, rfl⟩
    F_SameName___init__ := funD_mk l19 lT19 yT19 c19 k19
    b1_SameName___init__ := FunD.binds_one (funD_mk l19 lT19 yT19 c19 k19) 1 rfl fun _ _ _ _ _ _ _ us its hl hi => match us, hl, its, hi with | [_], _, [_], _ => ⟨_, rfl, rfl⟩
    b_SameName___init__ := FunD.binds_all (funD_mk l19 lT19 yT19 c19 k19) fun _ _ _ _ _ _ _ us its hl hi => match us, hl, its, hi with | [_, _], _, [_], _ => ⟨_, rfl, rfl⟩
    F_Overlap___init__ := funD_mk l20 lT20 yT20 c20 k20
    b1_Overlap___init__ := FunD.binds_one (funD_mk l20 lT20 yT20 c20 k20) 1 rfl fun _ _ _ _ _ _ _ us its hl hi => match us, hl, its, hi with | [_], _, [_], _ => ⟨_, rfl, rfl⟩
    b_Overlap___init__ := FunD.binds_all (funD_mk l20 lT20 yT20 c20 k20) fun _ _ _ _ _ _ _ us its hl hi => match us, hl, its, hi with | [_, _], _, [_], _ => ⟨_, rfl, rfl⟩
    F_is_name := fun_mk l21 c21 k21
    g_is_name := PySem.W.mg_of X G n21
    b_is_name := (fun_mk (st := s_is_name) l21 c21 k21).binds (ps := ["value"]) fun _ _ _ _ _ _ us hl => match us, hl with | [_], _ => rfl
    F_Assembly__add_piece := fun_mk l22 c22 k22
    b_Assembly__add_piece := (fun_mk (st := s_Assembly__add_piece) l22 c22 k22).binds (ps := ["self", "place", "item"]) fun _ _ _ _ _ _ us hl => match us, hl with | [_, _, _], _ => rfl
    F_Assembly___init__ := fun_mk l23 c23 k23
    b_Assembly___init__ := (fun_mk (st := s_Assembly___init__) l23 c23 k23).binds (ps := ["self", "pieces"]) fun _ _ _ _ _ _ us hl => match us, hl with | [_, _], _ => rfl
    F_law_deck := fun_mk l24 c24 k24
    g_law_deck := PySem.W.mg_of X G n24
    b_law_deck := (fun_mk (st := s_law_deck) l24 c24 k24).binds (ps := ["script"]) fun _ _ _ _ _ _ us hl => match us, hl with | [_], _ => rfl
    F_law_draw := fun_mk l25 c25 k25
    g_law_draw := PySem.W.mg_of X G n25
    b_law_draw := (fun_mk (st := s_law_draw) l25 c25 k25).binds (ps := ["deck", "bound"]) fun _ _ _ _ _ _ us hl => match us, hl with | [_, _], _ => rfl
    F_law_beside := fun_mk l26 c26 k26
    g_law_beside := PySem.W.mg_of X G n26
    b_law_beside := (fun_mk (st := s_law_beside) l26 c26 k26).binds (ps := ["cell"]) fun _ _ _ _ _ _ us hl => match us, hl with | [_], _ => rfl
    F_law_names := fun_mk l27 c27 k27
    g_law_names := PySem.W.mg_of X G n27
    b_law_names := (fun_mk (st := s_law_names) l27 c27 k27).binds (ps := ["deck", "count"]) fun _ _ _ _ _ _ us hl => match us, hl with | [_, _], _ => rfl
    F_law_lump := fun_mk l28 c28 k28
    g_law_lump := PySem.W.mg_of X G n28
    b_law_lump := (fun_mk (st := s_law_lump) l28 c28 k28).binds (ps := ["deck", "taken", "low", "wide"]) fun _ _ _ _ _ _ us hl => match us, hl with | [_, _, _, _], _ => rfl
    F_law_few := fun_mk l29 c29 k29
    g_law_few := PySem.W.mg_of X G n29
    b_law_few := (fun_mk (st := s_law_few) l29 c29 k29).binds (ps := ["deck"]) fun _ _ _ _ _ _ us hl => match us, hl with | [_], _ => rfl
    F_law_row_of := fun_mk l30 c30 k30
    g_law_row_of := PySem.W.mg_of X G n30
    b_law_row_of := (fun_mk (st := s_law_row_of) l30 c30 k30).binds (ps := ["pair"]) fun _ _ _ _ _ _ us hl => match us, hl with | [_], _ => rfl
    F_law_turns := fun_mk l31 c31 k31
    g_law_turns := PySem.W.mg_of X G n31
    b_law_turns := (fun_mk (st := s_law_turns) l31 c31 k31).binds (ps := []) fun _ _ _ _ _ _ us hl => match us, hl with | [], _ => rfl
    F_law_image := fun_mk l32 c32 k32
    g_law_image := PySem.W.mg_of X G n32
    b_law_image := (fun_mk (st := s_law_image) l32 c32 k32).binds (ps := ["cell", "turn"]) fun _ _ _ _ _ _ us hl => match us, hl with | [_, _], _ => rfl
    F_law_shifted := fun_mk l33 c33 k33
    g_law_shifted := PySem.W.mg_of X G n33
    b_law_shifted := (fun_mk (st := s_law_shifted) l33 c33 k33).binds (ps := ["lists"]) fun _ _ _ _ _ _ us hl => match us, hl with | [_], _ => rfl
    F_law_turned := fun_mk l34 c34 k34
    g_law_turned := PySem.W.mg_of X G n34
    b_law_turned := (fun_mk (st := s_law_turned) l34 c34 k34).binds (ps := ["lists", "turn"]) fun _ _ _ _ _ _ us hl => match us, hl with | [_, _], _ => rfl
    F_law_mixed := fun_mk l35 c35 k35
    g_law_mixed := PySem.W.mg_of X G n35
    b_law_mixed := (fun_mk (st := s_law_mixed) l35 c35 k35).binds (ps := ["deck", "row"]) fun _ _ _ _ _ _ us hl => match us, hl with | [_, _], _ => rfl
    F_law_moved := fun_mk l36 c36 k36
    g_law_moved := PySem.W.mg_of X G n36
    b_law_moved := (fun_mk (st := s_law_moved) l36 c36 k36).binds (ps := ["cells", "offset"]) fun _ _ _ _ _ _ us hl => match us, hl with | [_, _], _ => rfl
    F_law_copy := fun_mk l37 c37 k37
    g_law_copy := PySem.W.mg_of X G n37
    b_law_copy := (fun_mk (st := s_law_copy) l37 c37 k37).binds (ps := ["deck", "pieces", "turns"]) fun _ _ _ _ _ _ us hl => match us, hl with | [_, _, _], _ => rfl
    F_law_likeness := fun_mk l38 c38 k38
    g_law_likeness := PySem.W.mg_of X G n38
    b_law_likeness := (fun_mk (st := s_law_likeness) l38 c38 k38).binds (ps := ["pieces", "others", "turns"]) fun _ _ _ _ _ _ us hl => match us, hl with | [_, _, _], _ => rfl
    F_law_same := fun_mk l39 c39 k39
    g_law_same := PySem.W.mg_of X G n39
    b_law_same := (fun_mk (st := s_law_same) l39 c39 k39).binds (ps := ["value", "due"]) fun _ _ _ _ _ _ us hl => match us, hl with | [_, _], _ => rfl
    F_law := fun_mk l40 c40 k40
    g_law := PySem.W.mg_of X G n40
    b_law := (fun_mk (st := s_law) l40 c40 k40).binds (ps := ["script"]) fun _ _ _ _ _ _ us hl => match us, hl with | [_], _ => rfl
    cl_Assembly := ⟨pg_Assembly, hd_Assembly, po_Assembly, sa_Assembly⟩
    gc_Assembly := PySem.W.mg_of X G gc_Assembly
    na_Assembly__pieces := na_Assembly__pieces
    me_Assembly_pieces := ⟨n9, i9, k9⟩
    me_Assembly_names := ⟨n13, i13, k13⟩
    me_Assembly__add_piece := ⟨n22, i22, k22⟩
    mk_Assembly := ⟨mk_Assembly, n23, i23, kc_Assembly⟩
    gc_PieceError := PySem.W.mg_of X G gc_PieceError
    er_PieceError := errB_ok y_er_PieceError
    gc_BadCount := PySem.W.mg_of X G gc_BadCount
    er_BadCount := errB_ok y_er_BadCount
    gc_BadName := PySem.W.mg_of X G gc_BadName
    er_BadName := errB_ok y_er_BadName
    gc_BadSolid := PySem.W.mg_of X G gc_BadSolid
    er_BadSolid := errB_ok y_er_BadSolid
    gc_SameName := PySem.W.mg_of X G gc_SameName
    er_SameName := errB_ok y_er_SameName
    gc_Overlap := PySem.W.mg_of X G gc_Overlap
    er_Overlap := errB_ok y_er_Overlap
    ii_BadCount := n16
    ti_BadCount := y_ti_BadCount
    ii_BadName := n17
    ti_BadName := y_ti_BadName
    ii_BadSolid := n18
    ti_BadSolid := y_ti_BadSolid
    ii_SameName := n19
    ti_SameName := y_ti_SameName
    ii_Overlap := n20
    ti_Overlap := y_ti_Overlap
    rd_PE := y_rd_PE
    sg_PE := y_sg_PE
    fc_PE := y_fc_PE
    hh_PE := y_hh_PE
    c_CELLS_MOST := ⟨_, PySem.W.mg_of X G z_CELLS_MOST⟩
    c_COORDINATE_MOST := ⟨_, PySem.W.mg_of X G z_COORDINATE_MOST⟩
    c_NAME_LETTERS := ⟨_, PySem.W.mg_of X G z_NAME_LETTERS⟩
    c_NAME_MOST := ⟨_, PySem.W.mg_of X G z_NAME_MOST⟩
    c_NO_TURN := ⟨_, PySem.W.mg_of X G z_NO_TURN, y_NO_TURN⟩
    c_PIECES_MOST := ⟨_, PySem.W.mg_of X G z_PIECES_MOST⟩
    c_TURNS := ⟨_, PySem.W.mg_of X G z_TURNS, y_TURNS⟩
    m_abs := PySem.W.mg_none_of X G z_abs
    m_all := PySem.W.mg_none_of X G z_all
    m_any := PySem.W.mg_none_of X G z_any
    m_bool := PySem.W.mg_none_of X G z_bool
    m_enumerate := PySem.W.mg_none_of X G z_enumerate
    m_int := PySem.W.mg_none_of X G z_int
    m_isinstance := PySem.W.mg_none_of X G z_isinstance
    m_len := PySem.W.mg_none_of X G z_len
    m_list := PySem.W.mg_none_of X G z_list
    m_max := PySem.W.mg_none_of X G z_max
    m_min := PySem.W.mg_none_of X G z_min
    m_range := PySem.W.mg_none_of X G z_range
    m_repr := PySem.W.mg_none_of X G z_repr
    m_sorted := PySem.W.mg_none_of X G z_sorted
    m_str := PySem.W.mg_none_of X G z_str
    m_tuple := PySem.W.mg_none_of X G z_tuple
    m_zip := PySem.W.mg_none_of X G z_zip
    nc := y_nc }
  refine ⟨PySem.W.fnOf "law" "law" (defArgs s_law) (defBody s_law) (defScope s_law) .none kV40 dc40 pm40 an40 cd40 ct40, fun s v => .of_eq rfl, fun base _ _ => ?_⟩
  have G_Assembly_names := ok_Assembly_names (P := l.prog) (w := w) (base := base) T 
  have G_PieceError___init__ := ok_PieceError___init__ (P := l.prog) (w := w) (base := base) T 
  have G_BadName___init__ := ok_BadName___init__ (P := l.prog) (w := w) (base := base) T G_PieceError___init__
  have G_BadSolid___init__ := ok_BadSolid___init__ (P := l.prog) (w := w) (base := base) T G_PieceError___init__
  have G_Overlap___init__ := ok_Overlap___init__ (P := l.prog) (w := w) (base := base) T G_PieceError___init__
  have G_SameName___init__ := ok_SameName___init__ (P := l.prog) (w := w) (base := base) T G_PieceError___init__
  have G_is_name := ok_is_name (P := l.prog) (w := w) (base := base) T 
  have G_beside := ok_beside (P := l.prog) (w := w) (base := base) T 
  have G_hang_together := ok_hang_together (P := l.prog) (w := w) (base := base) T G_beside
  have G_is_integer := ok_is_integer (P := l.prog) (w := w) (base := base) T 
  have G_is_cell := ok_is_cell (P := l.prog) (w := w) (base := base) T G_is_integer
  have G_is_solid := ok_is_solid (P := l.prog) (w := w) (base := base) T G_hang_together G_is_cell
  have G_Assembly__add_piece := ok_Assembly__add_piece (P := l.prog) (w := w) (base := base) T G_Assembly_names G_BadName___init__ G_BadSolid___init__ G_Overlap___init__ G_SameName___init__ G_is_name G_is_solid
  have G_BadCount___init__ := ok_BadCount___init__ (P := l.prog) (w := w) (base := base) T G_PieceError___init__
  have G_Assembly___init__ := ok_Assembly___init__ (P := l.prog) (w := w) (base := base) T G_Assembly__add_piece G_BadCount___init__
  have G_Assembly_pieces := ok_Assembly_pieces (P := l.prog) (w := w) (base := base) T 
  have G_law_draw := ok_law_draw (P := l.prog) (w := w) (base := base) T 
  have G_law_beside := ok_law_beside (P := l.prog) (w := w) (base := base) T 
  have G_law_lump := ok_law_lump (P := l.prog) (w := w) (base := base) T G_law_beside G_law_draw
  have G_law_names := ok_law_names (P := l.prog) (w := w) (base := base) T G_law_draw
  have G_law_few := ok_law_few (P := l.prog) (w := w) (base := base) T G_law_draw G_law_lump G_law_names
  have G_law_mixed := ok_law_mixed (P := l.prog) (w := w) (base := base) T G_law_draw
  have G_law_moved := ok_law_moved (P := l.prog) (w := w) (base := base) T 
  have G_law_row_of := ok_law_row_of (P := l.prog) (w := w) (base := base) T 
  have G_law_image := ok_law_image (P := l.prog) (w := w) (base := base) T G_law_row_of
  have G_law_shifted := ok_law_shifted (P := l.prog) (w := w) (base := base) T 
  have G_law_turned := ok_law_turned (P := l.prog) (w := w) (base := base) T G_law_image G_law_shifted
  have G_law_copy := ok_law_copy (P := l.prog) (w := w) (base := base) T G_law_draw G_law_few G_law_mixed G_law_moved G_law_names G_law_turned
  have G_law_deck := ok_law_deck (P := l.prog) (w := w) (base := base) T 
  have G_law_likeness := ok_law_likeness (P := l.prog) (w := w) (base := base) T G_law_shifted G_law_turned
  have G_law_same := ok_law_same (P := l.prog) (w := w) (base := base) T 
  have G_law_turns := ok_law_turns (P := l.prog) (w := w) (base := base) T G_law_row_of
  have G_solids_of := ok_solids_of (P := l.prog) (w := w) (base := base) T G_Assembly_pieces
  have G_extents := ok_extents (P := l.prog) (w := w) (base := base) T 
  have G_image_of := ok_image_of (P := l.prog) (w := w) (base := base) T 
  have G_moved := ok_moved (P := l.prog) (w := w) (base := base) T 
  have G_turned_all := ok_turned_all (P := l.prog) (w := w) (base := base) T G_extents G_image_of G_moved
  have G_form_of := ok_form_of (P := l.prog) (w := w) (base := base) T G_solids_of G_turned_all
  have G_alike := ok_alike (P := l.prog) (w := w) (base := base) T G_form_of
  have G_likeness := ok_likeness (P := l.prog) (w := w) (base := base) T G_Assembly_names G_solids_of G_turned_all
  have G_law := ok_law (P := l.prog) (w := w) (base := base) T G_Assembly___init__ G_Assembly_pieces G_law_copy G_law_deck G_law_few G_law_likeness G_law_same G_law_turns G_alike G_form_of G_likeness
  exact G_law
end LW
open PySem PySem.W PyProof.Rows
set_option maxHeartbeats 0 in
theorem PySem.Challenge.cw_takenapart_k18_whole_likeness_holds : PySem.Challenge.rw_takenapart_k18_whole_likeness.Holds := by
  w_on; o_law; k_head; (case hw => w_witness2)
  k_fill
  refine DL.walk_dl (l := PySem.Challenge.rw_takenapart_k18_whole_likeness) (n := 63) (k := 7) (x := "script") (p := LW.sp_law) rfl (by decide) rfl ⟨rfl, by decide, by decide⟩ (fun w h Y => PySem.W.kIn_of Y) ?F LW.law_holds
  case F =>
    intro w mg fa h KX G hmg
    refine' LW.all_mk KX G hmg ?gc_Assembly ?pg_Assembly ?hd_Assembly ?po_Assembly ?sa_Assembly ?mk_Assembly ?kc_Assembly ?na_Assembly__pieces ?gc_PieceError ?gc_BadCount ?gc_BadName ?gc_BadSolid ?gc_SameName ?gc_Overlap ?n0 ?l0 ?c0 ?k0 ?n1 ?l1 ?c1 ?k1 ?n2 ?l2 ?c2 ?k2 ?n3 ?l3 ?c3 ?k3 ?n4 ?l4 ?c4 ?k4 ?n5 ?l5 ?c5 ?k5 ?n6 ?l6 ?c6 ?k6 ?n7 ?l7 ?c7 ?k7 ?n8 ?l8 ?c8 ?k8 ?n9 ?i9 ?l9 ?c9 ?k9 ?n10 ?l10 ?c10 ?k10 ?n11 ?l11 ?c11 ?k11 ?n12 ?l12 ?c12 ?k12 ?n13 ?i13 ?l13 ?c13 ?k13 ?n14 ?l14 ?c14 ?k14 ?n15 ?i15 ?l15 ?lT15 ?yT15 ?c15 ?k15 ?n16 ?i16 ?l16 ?lT16 ?yT16 ?c16 ?k16 ?n17 ?i17 ?l17 ?lT17 ?yT17 ?c17 ?k17 ?n18 ?i18 ?l18 ?lT18 ?yT18 ?c18 ?k18 ?n19 ?i19 ?l19 ?lT19 ?yT19 ?c19 ?k19 ?n20 ?i20 ?l20 ?lT20 ?yT20 ?c20 ?k20 ?n21 ?l21 ?c21 ?k21 ?n22 ?i22 ?l22 ?c22 ?k22 ?n23 ?i23 ?l23 ?c23 ?k23 ?n24 ?l24 ?c24 ?k24 ?n25 ?l25 ?c25 ?k25 ?n26 ?l26 ?c26 ?k26 ?n27 ?l27 ?c27 ?k27 ?n28 ?l28 ?c28 ?k28 ?n29 ?l29 ?c29 ?k29 ?n30 ?l30 ?c30 ?k30 ?n31 ?l31 ?c31 ?k31 ?n32 ?l32 ?c32 ?k32 ?n33 ?l33 ?c33 ?k33 ?n34 ?l34 ?c34 ?k34 ?n35 ?l35 ?c35 ?k35 ?n36 ?l36 ?c36 ?k36 ?n37 ?l37 ?c37 ?k37 ?n38 ?l38 ?c38 ?k38 ?n39 ?l39 ?c39 ?k39 ?n40 ?l40 ?c40 ?k40 ?y_er_PieceError ?y_er_BadCount ?y_er_BadName ?y_er_BadSolid ?y_er_SameName ?y_er_Overlap ?y_ti_BadCount ?y_ti_BadName ?y_ti_BadSolid ?y_ti_SameName ?y_ti_Overlap ?y_rd_PE ?y_sg_PE ?y_fc_PE ?y_hh_PE ?z_CELLS_MOST ?z_COORDINATE_MOST ?z_NAME_LETTERS ?z_NAME_MOST ?z_NO_TURN ?y_NO_TURN ?z_PIECES_MOST ?z_TURNS ?y_TURNS ?z_abs ?z_all ?z_any ?z_bool ?z_enumerate ?z_int ?z_isinstance ?z_len ?z_list ?z_max ?z_min ?z_range ?z_repr ?z_sorted ?z_str ?z_tuple ?z_zip ?y_nc
    (case gc_Assembly => k_is); (case pg_Assembly => k_is); (case hd_Assembly => k_is); (case po_Assembly => k_is); (case sa_Assembly => k_is); (case mk_Assembly => k_is); (case kc_Assembly => k_is); (case na_Assembly__pieces => k_is); (case gc_PieceError => k_is); (case gc_BadCount => k_is); (case gc_BadName => k_is); (case gc_BadSolid => k_is); (case gc_SameName => k_is); (case gc_Overlap => k_is); (case n0 => k_is); (case l0 => k_is); (case c0 => k_is); (case k0 => k_is); (case n1 => k_is); (case l1 => k_is); (case c1 => k_is); (case k1 => k_is); (case n2 => k_is); (case l2 => k_is); (case c2 => k_is); (case k2 => k_is); (case n3 => k_is); (case l3 => k_is); (case c3 => k_is); (case k3 => k_is); (case n4 => k_is); (case l4 => k_is); (case c4 => k_is); (case k4 => k_is); (case n5 => k_is); (case l5 => k_is); (case c5 => k_is); (case k5 => k_is); (case n6 => k_is); (case l6 => k_is); (case c6 => k_is); (case k6 => k_is); (case n7 => k_is); (case l7 => k_is); (case c7 => k_is); (case k7 => k_is); (case n8 => k_is); (case l8 => k_is); (case c8 => k_is); (case k8 => k_is); (case n9 => k_is); (case i9 => k_is); (case l9 => k_is); (case c9 => k_is); (case k9 => k_is); (case n10 => k_is); (case l10 => k_is); (case c10 => k_is); (case k10 => k_is); (case n11 => k_is); (case l11 => k_is); (case c11 => k_is); (case k11 => k_is); (case n12 => k_is); (case l12 => k_is); (case c12 => k_is); (case k12 => k_is); (case n13 => k_is); (case i13 => k_is); (case l13 => k_is); (case c13 => k_is); (case k13 => k_is); (case n14 => k_is); (case l14 => k_is); (case c14 => k_is); (case k14 => k_is); (case n15 => k_is); (case i15 => k_is); (case l15 => k_is); (case lT15 => k_is); (case yT15 => rfl); (case c15 => k_is); (case k15 => k_is); (case n16 => k_is); (case i16 => k_is); (case l16 => k_is); (case lT16 => k_is); (case yT16 => rfl); (case c16 => k_is); (case k16 => k_is); (case n17 => k_is); (case i17 => k_is); (case l17 => k_is); (case lT17 => k_is); (case yT17 => rfl); (case c17 => k_is); (case k17 => k_is); (case n18 => k_is); (case i18 => k_is); (case l18 => k_is); (case lT18 => k_is); (case yT18 => rfl); (case c18 => k_is); (case k18 => k_is); (case n19 => k_is); (case i19 => k_is); (case l19 => k_is); (case lT19 => k_is); (case yT19 => rfl); (case c19 => k_is); (case k19 => k_is); (case n20 => k_is); (case i20 => k_is); (case l20 => k_is); (case lT20 => k_is); (case yT20 => rfl); (case c20 => k_is); (case k20 => k_is); (case n21 => k_is); (case l21 => k_is); (case c21 => k_is); (case k21 => k_is); (case n22 => k_is); (case i22 => k_is); (case l22 => k_is); (case c22 => k_is); (case k22 => k_is); (case n23 => k_is); (case i23 => k_is); (case l23 => k_is); (case c23 => k_is); (case k23 => k_is); (case n24 => k_is); (case l24 => k_is); (case c24 => k_is); (case k24 => k_is); (case n25 => k_is); (case l25 => k_is); (case c25 => k_is); (case k25 => k_is); (case n26 => k_is); (case l26 => k_is); (case c26 => k_is); (case k26 => k_is); (case n27 => k_is); (case l27 => k_is); (case c27 => k_is); (case k27 => k_is); (case n28 => k_is); (case l28 => k_is); (case c28 => k_is); (case k28 => k_is); (case n29 => k_is); (case l29 => k_is); (case c29 => k_is); (case k29 => k_is); (case n30 => k_is); (case l30 => k_is); (case c30 => k_is); (case k30 => k_is); (case n31 => k_is); (case l31 => k_is); (case c31 => k_is); (case k31 => k_is); (case n32 => k_is); (case l32 => k_is); (case c32 => k_is); (case k32 => k_is); (case n33 => k_is); (case l33 => k_is); (case c33 => k_is); (case k33 => k_is); (case n34 => k_is); (case l34 => k_is); (case c34 => k_is); (case k34 => k_is); (case n35 => k_is); (case l35 => k_is); (case c35 => k_is); (case k35 => k_is); (case n36 => k_is); (case l36 => k_is); (case c36 => k_is); (case k36 => k_is); (case n37 => k_is); (case l37 => k_is); (case c37 => k_is); (case k37 => k_is); (case n38 => k_is); (case l38 => k_is); (case c38 => k_is); (case k38 => k_is); (case n39 => k_is); (case l39 => k_is); (case c39 => k_is); (case k39 => k_is); (case n40 => k_is); (case l40 => k_is); (case c40 => k_is); (case k40 => k_is); (case y_er_PieceError => rfl); (case y_er_BadCount => rfl); (case y_er_BadName => rfl); (case y_er_BadSolid => rfl); (case y_er_SameName => rfl); (case y_er_Overlap => rfl); (case y_ti_BadCount => rfl); (case y_ti_BadName => rfl); (case y_ti_BadSolid => rfl); (case y_ti_SameName => rfl); (case y_ti_Overlap => rfl); (case y_rd_PE => rfl); (case y_sg_PE => rfl); (case y_fc_PE => rfl); (case y_hh_PE => rfl); (case z_CELLS_MOST => k_is); (case z_COORDINATE_MOST => k_is); (case z_NAME_LETTERS => k_is); (case z_NAME_MOST => k_is); (case z_NO_TURN => k_is); (case y_NO_TURN => rfl); (case z_PIECES_MOST => k_is); (case z_TURNS => k_is); (case y_TURNS => rfl); (case z_abs => k_is); (case z_all => k_is); (case z_any => k_is); (case z_bool => k_is); (case z_enumerate => k_is); (case z_int => k_is); (case z_isinstance => k_is); (case z_len => k_is); (case z_list => k_is); (case z_max => k_is); (case z_min => k_is); (case z_range => k_is); (case z_repr => k_is); (case z_sorted => k_is); (case z_str => k_is); (case z_tuple => k_is); (case z_zip => k_is); (case y_nc => rfl)
