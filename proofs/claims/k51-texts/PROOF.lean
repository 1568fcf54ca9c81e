import PyProof.Rows.All
import HandS.ForMost
import HandS.Style
import HandS.TupAny
import HandS.Deep
import HandS.Defaults
import HandS.Flow
import KE.KDictKeyed
import KE.KDictWalk
import KE.SortData
import KE.LtData
import KE.DataEq
import KE.DataMinMax
import KE.LtSeq
import HandS.Iter
import KE.GoesMore
import KE.GoesEnum
import KE.GoesZip
import KE.GoesNew
import HandS.IsInst
import KE.KTupSum
import KE.KDictSum
import KE.KDictCopyH
import HandS.Dict
import HandS.DictComp
import KE.KDictPairs
import HandS.Text
import HandS.StrSplit
import HandS.RaiseMore
import HandS.More
import HandS.Wide
import KE.KDictDisplayH
import HandS.HeadHook4
import HandS.HeadEnd
import PySem.Challenge.RW_layerbody_k51_whole_texts_there_and_back
import KE.KStateDown
import HandS.Head0
import HandS.Head1
import HandS.Head2
set_option Elab.async false
set_option linter.all false
set_option maxRecDepth 100000
set_option maxHeartbeats 0
/-! TA: data as trees over the hand layer: D, what denotes it, the store of what changes, readings over these. -/
namespace TL
open PySem PySem.Spec L2

/-- a value as a tree; ref: a thing that changes, by its address -/
inductive D where
  | non | bl (b : Bool) | int (i : Int) | str (x : Str) | tup (ds : List D) | lst (ds : List D) | ref (a : Addr) | scr (ns : List Int)
noncomputable instance : DecidableEq D := fun _ _ => Classical.propDecidable _

/-- things that change: a list, a dict with tuple keys, a dict with int and text keys, an instance -/
inductive OD where
  | lst (ds : List D) | dct (kvs : List (D × D)) | dk (kvs : List (Key × D)) | ins (C : Addr) (fs : List (Str × D))
  /-- a dict that is walked: read, not changed -/
  | dctL (kvs : List (D × D)) | dkL (kvs : List (Key × D))
abbrev SD := Addr → Option OD
abbrev ED := List (Option D)
def upA (A : SD) (p : Addr) (o : OD) : SD := fun b => if b = p then some o else A b
def drop (A : SD) (p : Addr) : SD := fun b => if b = p then none else A b
@[simp] theorem upA_same {A : SD} {p : Addr} {o : OD} : upA A p o p = some o := if_pos rfl
theorem upA_ne {A : SD} {p b : Addr} {o : OD} (h : b ≠ p) : upA A p o b = A b := if_neg h
@[simp] theorem upA_upA {A : SD} {p : Addr} {o u : OD} : upA (upA A p o) p u = upA A p u := by
  funext b; unfold upA; split <;> rfl
theorem drop_upA {A : SD} {p : Addr} {o : OD} (h : A p = none) : drop (upA A p o) p = A := by
  funext b; unfold drop upA
  split
  · rename_i e; rw [e, h]
  · rfl
theorem drop_ne {A : SD} {p b : Addr} (h : b ≠ p) : drop A p b = A b := if_neg h

/-- a list that stays as it is: locked for good -/
def SqF (H : Hp) (a : Addr) (xs : List V) : Prop := ∃ o, H a = some (.frz o (.lst xs))
theorem SqF.sq {K : PySem.W.Frag} {H : Hp} {a : Addr} {xs : List V} (h : SqF H a xs) : SqL K H a xs := by
  obtain ⟨o, h⟩ := h
  exact .inl (.inr ⟨o, h⟩)
/-- the script: locked, or an object of the module -/
def SqC (K : PySem.W.Frag) (H : Hp) (a : Addr) (xs : List V) : Prop :=
  (∃ o, H a = some (.frz o (.lst xs))) ∨
    ∃ (o : Obj) (its : Array Value) (n : Nat), K.lookup a = some o ∧ o.cls = .type "list" ∧ o.dict = none ∧ o.data = .seq its n ∧ its.size ≤ sizeLine ∧ Vals xs its.toList
theorem SqC.sq {K : PySem.W.Frag} {H : Hp} {a : Addr} {xs : List V} (h : SqC K H a xs) : SqL K H a xs := by
  rcases h with ⟨o, h⟩ | h
  · exact .inl (.inr ⟨o, h⟩)
  · exact .inr h

/-- tuples and locked things stay -/
structure KeepT (H H' : Hp) : Prop where
  tup : ∀ a xs, H a = some (.tup xs) → H' a = some (.tup xs)
  frz : ∀ a o u, H a = some (.frz o u) → H' a = some (.frz o u)
theorem KeepT.refl (H : Hp) : KeepT H H := ⟨fun _ _ h => h, fun _ _ _ h => h⟩
theorem KeepT.trans {H H1 H2 : Hp} (a : KeepT H H1) (b : KeepT H1 H2) : KeepT H H2 := ⟨fun c xs h => b.tup _ _ (a.tup c xs h), fun c o u h => b.frz _ _ _ (a.frz c o u h)⟩
theorem KeepT.new {H : Hp} {p : Addr} {o : HO} (h : H p = none) : KeepT H (upd H p o) := ⟨fun a xs e => by rw [upd_ne (ne_of_none e h)]; exact e, fun a o u e => by rw [upd_ne (ne_of_none e h)]; exact e⟩
theorem KeepT.mut {H : Hp} {p : Addr} {o u : HO} (h : H p = some u) (m : Mut (some u)) : KeepT H (upd H p o) :=
  ⟨fun a xs e => by rw [upd_ne (ne_of e h (fun z => by subst z; exact m))]; exact e, fun a o' u' e => by rw [upd_ne (ne_of e h (fun z => by subst z; exact m))]; exact e⟩
theorem KeepT.same {H H' : Hp} (h : Same H H') : KeepT H H' := ⟨fun a xs e => h _ _ e, fun a o u e => h _ _ e⟩

mutual
/-- the value denotes the tree -/
inductive TV (K : PySem.W.Frag) (H : Hp) : V → D → Prop
  | non : TV K H .non .non
  | bl (b : Bool) : TV K H (.bl b) (.bl b)
  | int (i : Int) : TV K H (.int i) (.int i)
  | str (x : Str) : TV K H (.str x) (.str x)
  | tup {a : Addr} {vs : List V} {ds : List D} : SqT K H a vs → TVs K H vs ds → TV K H (.ref a) (.tup ds)
  | lst {a : Addr} {vs : List V} {ds : List D} : SqF H a vs → TVs K H vs ds → TV K H (.ref a) (.lst ds)
  | ref (a : Addr) : TV K H (.ref a) (.ref a)
  | scr {a : Addr} {ns : List Int} : SqC K H a (ns.map V.int) → TV K H (.ref a) (.scr ns)
inductive TVs (K : PySem.W.Frag) (H : Hp) : List V → List D → Prop
  | nil : TVs K H [] []
  | cons {v : V} {d : D} {vs : List V} {ds : List D} : TV K H v d → TVs K H vs ds → TVs K H (v :: vs) (d :: ds)
end
section
variable {K : PySem.W.Frag} {H H' : Hp}
theorem TVs.length : ∀ {vs : List V} {ds : List D}, TVs K H vs ds → vs.length = ds.length
  | _, _, .nil => rfl
  | _, _, .cons _ t => by simp [TVs.length t]
theorem SqT.keep {a : Addr} {xs : List V} (k : KeepT H H') (h : SqT K H a xs) : SqT K H' a xs := by
  rcases h with (h | ⟨o, h⟩) | h
  · exact .inl (.inl (k.tup _ _ h))
  · exact .inl (.inr ⟨o, k.frz _ _ _ h⟩)
  · exact .inr h
theorem SqF.keep {a : Addr} {xs : List V} (k : KeepT H H') (h : SqF H a xs) : SqF H' a xs := by
  obtain ⟨o, h⟩ := h
  exact ⟨o, k.frz _ _ _ h⟩
theorem SqC.keep {a : Addr} {xs : List V} (k : KeepT H H') (h : SqC K H a xs) : SqC K H' a xs := by
  rcases h with ⟨o, h⟩ | h
  · exact .inl ⟨o, k.frz _ _ _ h⟩
  · exact .inr h
mutual
theorem TV.keep (k : KeepT H H') : ∀ {v : V} {d : D}, TV K H v d → TV K H' v d
  | _, _, .non => .non
  | _, _, .bl b => .bl b
  | _, _, .int i => .int i
  | _, _, .str x => .str x
  | _, _, .tup h t => .tup (SqT.keep k h) (TVs.keep k t)
  | _, _, .lst h t => .lst (SqF.keep k h) (TVs.keep k t)
  | _, _, .ref a => .ref a
  | _, _, .scr h => .scr (SqC.keep k h)
theorem TVs.keep (k : KeepT H H') : ∀ {vs : List V} {ds : List D}, TVs K H vs ds → TVs K H' vs ds
  | _, _, .nil => .nil
  | _, _, .cons h t => .cons (TV.keep k h) (TVs.keep k t)
end
theorem TVs.append : ∀ {xs ys : List V} {ds es : List D}, TVs K H xs ds → TVs K H ys es → TVs K H (xs ++ ys) (ds ++ es)
  | _, _, _, _, .nil, s => s
  | _, _, _, _, .cons r t, s => .cons r (TVs.append t s)
theorem TVs.get : ∀ {vs : List V} {ds : List D} {i : Nat} {d : D}, TVs K H vs ds → ds[i]? = some d → ∃ v, vs[i]? = some v ∧ TV K H v d
  | _, _, _, _, .nil, e => by simp at e
  | _, _, 0, _, .cons r _, e => by simp at e; subst e; exact ⟨_, rfl, r⟩
  | _, _, i + 1, d, .cons _ t, e => by
    obtain ⟨v, h1, h2⟩ := TVs.get (i := i) (d := d) t (by simpa using e)
    exact ⟨v, by simpa using h1, h2⟩
theorem TVs.getV : ∀ {vs : List V} {ds : List D} {i : Nat} {v : V}, TVs K H vs ds → vs[i]? = some v → ∃ d, ds[i]? = some d ∧ TV K H v d
  | _, _, _, _, .nil, e => by simp at e
  | _, _, 0, _, .cons r _, e => by simp at e; subst e; exact ⟨_, rfl, r⟩
  | _, _, i + 1, v, .cons _ t, e => by
    obtain ⟨d, h1, h2⟩ := TVs.getV (i := i) (v := v) t (by simpa using e)
    exact ⟨d, by simpa using h1, h2⟩
theorem TVs.set {x : V} {d : D} (r : TV K H x d) : ∀ {vs : List V} {ds : List D} (i : Nat), TVs K H vs ds → TVs K H (vs.set i x) (ds.set i d)
  | _, _, _, .nil => .nil
  | _, _, 0, .cons _ t => .cons r t
  | _, _, i + 1, .cons q t => .cons q (TVs.set r i t)
theorem TVs.take : ∀ {vs : List V} {ds : List D} (n : Nat), TVs K H vs ds → TVs K H (vs.take n) (ds.take n)
  | _, _, 0, _ => .nil
  | _, _, _ + 1, .nil => .nil
  | _, _, n + 1, .cons r t => .cons r (TVs.take n t)
theorem TVs.drop : ∀ {vs : List V} {ds : List D} (n : Nat), TVs K H vs ds → TVs K H (vs.drop n) (ds.drop n)
  | _, _, 0, r => r
  | _, _, _ + 1, .nil => .nil
  | _, _, n + 1, .cons _ t => TVs.drop n t
theorem TVs.eraseIdx : ∀ {vs : List V} {ds : List D} (n : Nat), TVs K H vs ds → TVs K H (vs.eraseIdx n) (ds.eraseIdx n)
  | _, _, _, .nil => .nil
  | _, _, 0, .cons _ t => t
  | _, _, n + 1, .cons r t => .cons r (TVs.eraseIdx n t)
theorem TVs.split : ∀ {ds es : List D} {vs : List V}, TVs K H vs (ds ++ es) → ∃ xs ys, vs = xs ++ ys ∧ TVs K H xs ds ∧ TVs K H ys es
  | [], es, vs, t => ⟨[], vs, rfl, .nil, t⟩
  | d :: ds, es, _, .cons r t => by
    obtain ⟨xs, ys, rfl, h1, h2⟩ := TVs.split (ds := ds) t
    exact ⟨_ :: xs, ys, rfl, .cons r h1, h2⟩
end

theorem _root_.PySem.Paired.mapQ {α β : Type} {F G : α → β → Prop} {l₁ : List α} {l₂ : List β} (h : Paired F l₁ l₂) (f : ∀ a b, F a b → G a b) : Paired G l₁ l₂ := L2.Paired.mapP h f
/-! ### the store -/
/-- the dict at a, its entries by value: the key's tree (as a nested key), the key's tuple, the value -/
def RawN (P : Program) (w : World) (a : Addr) (es : List (NestedKey × Addr × V)) : Heap → Prop := fun h =>
  (a == sysModules) = false ∧ ∃ xs : List (NestedKey × Addr × Value), Paired (fun (x : NestedKey × Addr × V) (y : NestedKey × Addr × Value) => x.1 = y.1 ∧ x.2.1 = y.2.1 ∧ RelV x.2.2 y.2.2) es xs ∧
    ∃ o ea ep, h.get? a = some o ∧ o.ExactDict ∧ o.data = .dict ea ep ∧ ea.toList = xs.map (entryOfKey (nestedKind P w)) ∧ (xs.map (·.1)).Nodup
mutual
/-- the tree as a key -/
def toKey : D → Option NestedKey
  | .int i => some (.num i)
  | .str x => some (.text x)
  | .non => some .none
  | .tup ds => (toKeys ds).map .tup
  | _ => none
def toKeys : List D → Option (List NestedKey)
  | [] => some []
  | d :: ds => match toKey d, toKeys ds with
    | some k, some ks => some (k :: ks)
    | _, _ => none
end
/-- a tuple that may be a key -/
def keyOk (d : D) : Bool := match d with
  | .tup _ => (match toKey d with | some k => decide (k.depth ≤ 8) | none => false)
  | _ => false
def OR (P : Program) (w : World) (K : PySem.W.Frag) (H : Hp) (a : Addr) : OD → Prop
  | .lst ds => ∃ vs, H a = some (.lst vs) ∧ TVs K H vs ds
  | .dct kvs => ∃ es : List (NestedKey × Addr × V), H a = some (.ext (RawN P w a es)) ∧
      Paired (fun (kv : D × D) (x : NestedKey × Addr × V) => toKey kv.1 = some x.1 ∧ keyOk kv.1 = true ∧ TV K H (.ref x.2.1) kv.1 ∧ TV K H x.2.2 kv.2) kvs es
  | .dctL kvs => ∃ (o : Obj) (es : List (NestedKey × Addr × V)), H a = some (.frz o (.ext (RawN P w a es))) ∧
      Paired (fun (kv : D × D) (x : NestedKey × Addr × V) => toKey kv.1 = some x.1 ∧ keyOk kv.1 = true ∧ TV K H (.ref x.2.1) kv.1 ∧ TV K H x.2.2 kv.2) kvs es
  | .dkL kvs => ∃ (o : Obj) (vs : List (Key × V)), H a = some (.frz o (.dK vs)) ∧ Paired (fun (kv : Key × D) (x : Key × V) => kv.1 = x.1 ∧ TV K H x.2 kv.2) kvs vs
  | .dk kvs => ∃ vs : List (Key × V), H a = some (.dK vs) ∧ Paired (fun (kv : Key × D) (x : Key × V) => kv.1 = x.1 ∧ TV K H x.2 kv.2) kvs vs
  | .ins C fs => ∃ dx vs, H a = some (.ins C dx vs) ∧ Paired (fun (kv : Str × D) (x : Str × V) => kv.1 = x.1 ∧ TV K H x.2 kv.2) fs vs
def AR (P : Program) (w : World) (K : PySem.W.Frag) (A : SD) (H : Hp) : Prop := ∀ a o, A a = some o → OR P w K H a o
section
variable {P : Program} {w : World} {K : PySem.W.Frag} {H H' : Hp} {A : SD}
theorem OR.keep {a : Addr} {o : OD} (h : OR P w K H a o) (k : KeepT H H') (e : H' a = H a) : OR P w K H' a o := by
  cases o with
  | lst ds => obtain ⟨vs, h1, h2⟩ := h; exact ⟨vs, e.trans h1, h2.keep k⟩
  | dct kvs => obtain ⟨vs, h1, h2⟩ := h; exact ⟨vs, e.trans h1, h2.mapQ fun p q z => ⟨z.1, z.2.1, z.2.2.1.keep k, z.2.2.2.keep k⟩⟩
  | dctL kvs => obtain ⟨o, vs, h1, h2⟩ := h; exact ⟨o, vs, e.trans h1, h2.mapQ fun p q z => ⟨z.1, z.2.1, z.2.2.1.keep k, z.2.2.2.keep k⟩⟩
  | dk kvs => obtain ⟨vs, h1, h2⟩ := h; exact ⟨vs, e.trans h1, h2.mapQ fun p q z => ⟨z.1, z.2.keep k⟩⟩
  | dkL kvs => obtain ⟨o, vs, h1, h2⟩ := h; exact ⟨o, vs, e.trans h1, h2.mapQ fun p q z => ⟨z.1, z.2.keep k⟩⟩
  | ins C fs => obtain ⟨dx, vs, h1, h2⟩ := h; exact ⟨dx, vs, e.trans h1, h2.mapQ fun p q z => ⟨z.1, z.2.keep k⟩⟩
theorem OR.there {a : Addr} {o : OD} (h : OR P w K H a o) : ∃ u, H a = some u := by
  cases o with
  | lst ds => obtain ⟨vs, h1, h2⟩ := h; exact ⟨_, h1⟩
  | dct kvs => obtain ⟨vs, h1, h2⟩ := h; exact ⟨_, h1⟩
  | dctL kvs => obtain ⟨o, vs, h1, h2⟩ := h; exact ⟨_, h1⟩
  | dk kvs => obtain ⟨vs, h1, h2⟩ := h; exact ⟨_, h1⟩
  | dkL kvs => obtain ⟨o, vs, h1, h2⟩ := h; exact ⟨_, h1⟩
  | ins C fs => obtain ⟨dx, vs, h1, h2⟩ := h; exact ⟨_, h1⟩
theorem AR.fresh (r : AR P w K A H) {p : Addr} (h : H p = none) : A p = none := by
  cases e : A p with
  | none => rfl
  | some o =>
    obtain ⟨u, h1⟩ := (r p o e).there
    rw [h] at h1; cases h1
/-- nothing that is told changes -/
theorem AR.same (r : AR P w K A H) (s : Same H H') : AR P w K A H' := fun a o e => by
  obtain ⟨u, h1⟩ := (r a o e).there
  exact (r a o e).keep (.same s) ((s _ _ h1).trans h1.symm)
theorem Same.new {p : Addr} {o : HO} (h : H p = none) : Same H (upd H p o) := fun a u e => by rw [upd_ne (ne_of_none e h)]; exact e
/-- a new thing that isn't told -/
theorem AR.new (r : AR P w K A H) {p : Addr} {o : HO} (h : H p = none) : AR P w K A (upd H p o) := r.same (Same.new h)
theorem AR.put (r : AR P w K A H) {p : Addr} {o : HO} {od : OD} (k : KeepT H (upd H p o)) (h : OR P w K (upd H p o) p od) : AR P w K (upA A p od) (upd H p o) := fun a u e => by
  by_cases ha : a = p
  · subst ha; rw [upA_same] at e; cases e; exact h
  · rw [upA_ne ha] at e
    exact (r a u e).keep k (upd_ne ha)
theorem AR.drop (r : AR P w K A H) {p : Addr} {o : HO} (k : KeepT H (upd H p o)) : AR P w K (TL.drop A p) (upd H p o) := fun a u e => by
  by_cases ha : a = p
  · subst ha; unfold TL.drop at e; rw [if_pos rfl] at e; cases e
  · rw [drop_ne ha] at e
    exact (r a u e).keep k (upd_ne ha)
theorem AR.less {B : SD} (r : AR P w K A H) (h : ∀ a o, B a = some o → A a = some o) : AR P w K B H := fun a o e => r a o (h a o e)
end

/-! ### readings over trees -/
abbrev QD := D → SD → Prop
abbrev EW := ED → SD → QD → Prop
abbrev AW := ED → SD → (List D → SD → Prop) → Prop
abbrev TW := ED → SD → (Bool → SD → Prop) → Prop
structure EndD where
  nx : ED → SD → Prop
  rt : QD
  bk : ED → SD → Prop := fun _ _ => False
  ct : ED → SD → Prop := fun _ _ => False
abbrev SW := EndD → ED → SD → Prop
abbrev GW := D → ED → SD → (ED → SD → Prop) → Prop
/-- the slots -/
def ER (K : PySem.W.Frag) (H : Hp) (σ : St) (env : ED) : Prop := σ.length = env.length ∧ ∀ (i : Nat) (d : D), env[i]? = some (some d) → ∃ v, σ[i]? = some (some v) ∧ TV K H v d
section
variable {K : PySem.W.Frag} {H H' : Hp} {σ : St} {env : ED}
theorem ER.keep (r : ER K H σ env) (k : KeepT H H') : ER K H' σ env := ⟨r.1, fun i d e => let ⟨v, h1, h2⟩ := r.2 i d e; ⟨v, h1, h2.keep k⟩⟩
theorem ER.set (r : ER K H σ env) {i : Nat} {v : V} {d : D} (h : TV K H v d) : ER K H (σ.set i (some v)) (env.set i (some d)) := by
  refine ⟨by rw [List.length_set, List.length_set]; exact r.1, fun j e hj => ?_⟩
  by_cases hi : i = j
  · subst hi
    by_cases hl : i < env.length
    · rw [List.getElem?_set_self hl] at hj
      cases hj
      exact ⟨v, List.getElem?_set_self (by rw [r.1]; exact hl), h⟩
    · rw [List.getElem?_eq_none (by simpa using Nat.le_of_not_lt hl)] at hj; cases hj
  · rw [List.getElem?_set_ne hi] at hj ⊢
    exact r.2 j e hj
end
abbrev ARx (X : Cx) (A : SD) (H : Hp) : Prop := AR X.prog X.w X.K A H
/-- all slots but these are the same -/
def Off (vs : List Nat) (σ σ' : St) : Prop := σ'.length = σ.length ∧ ∀ j, j ∉ vs → σ'[j]? = σ[j]?
theorem Off.refl (vs : List Nat) (σ : St) : Off vs σ σ := ⟨rfl, fun _ _ => rfl⟩
theorem Off.trans {vs vs' : List Nat} {σ σ' σ'' : St} (h : Off vs σ σ') (h' : Off vs' σ' σ'') : Off (vs ++ vs') σ σ'' :=
  ⟨h'.1.trans h.1, fun j hj => by
    rw [List.mem_append, not_or] at hj
    exact (h'.2 j hj.2).trans (h.2 j hj.1)⟩
section
variable (P : Program) (w : World) (K : PySem.W.Frag)
def lE0 (t : EW) : TE := fun σ H Q => ∃ env A Q', ER K H σ env ∧ AR P w K A H ∧ t env A Q' ∧ ∀ d A' v H', Q' d A' → KeepT H H' → AR P w K A' H' → TV K H' v d → Q v H'
def lA0 (t : AW) : TA := fun σ H Q => ∃ env A Q', ER K H σ env ∧ AR P w K A H ∧ t env A Q' ∧ ∀ ds A' vs H', Q' ds A' → KeepT H H' → AR P w K A' H' → TVs K H' vs ds → Q vs H'
def lT0 (t : TW) : TT := fun σ H Q => ∃ env A Q', ER K H σ env ∧ AR P w K A H ∧ t env A Q' ∧ ∀ b A' H', Q' b A' → KeepT H H' → AR P w K A' H' → Q b H'
def lS0 (t : SW) : TS := fun D σ H => ∃ env A D', ER K H σ env ∧ AR P w K A H ∧ t D' env A ∧
  (∀ env' A' σ' H', D'.nx env' A' → KeepT H H' → ER K H' σ' env' → AR P w K A' H' → D.nx σ' H') ∧ (∀ d A' v H', D'.rt d A' → KeepT H H' → AR P w K A' H' → TV K H' v d → D.rt v H') ∧
  (∀ env' A' σ' H', D'.bk env' A' → KeepT H H' → ER K H' σ' env' → AR P w K A' H' → D.bk σ' H') ∧ (∀ env' A' σ' H', D'.ct env' A' → KeepT H H' → ER K H' σ' env' → AR P w K A' H' → D.ct σ' H')
def lG0 (vs : List Nat) (g : GW) : TG := fun v σ H Q => ∃ d env A Q', TV K H v d ∧ ER K H σ env ∧ AR P w K A H ∧ g d env A Q' ∧ ∀ env' A' σ' H', Q' env' A' → KeepT H H' → Off vs σ σ' → ER K H' σ' env' → AR P w K A' H' → Q σ' H'
end
abbrev lE (X : Cx) : EW → TE := lE0 X.prog X.w X.K
abbrev lA (X : Cx) : AW → TA := lA0 X.prog X.w X.K
abbrev lT (X : Cx) : TW → TT := lT0 X.prog X.w X.K
abbrev lS (X : Cx) : SW → TS := lS0 X.prog X.w X.K
abbrev lG (X : Cx) : List Nat → GW → TG := lG0 X.prog X.w X.K
theorem PE.imp {X : Cx} {e : Expr} {t t' : TE} (h : PE X e t) (hi : ∀ σ H Q, t' σ H Q → t σ H Q) : PE X e t' := ⟨fun pins s σ H Q I q => h.run pins s σ H Q I (hi σ H Q q)⟩
theorem PA.imp {X : Cx} {e : List Expr} {t t' : TA} (h : PA X e t) (hi : ∀ σ H Q, t' σ H Q → t σ H Q) : PA X e t' := ⟨fun pos pins s σ H Q I q => h.run pos pins s σ H Q I (hi σ H Q q)⟩
theorem PT.imp {X : Cx} {e : Expr} {t t' : TT} (h : PT X e t) (hi : ∀ σ H Q, t' σ H Q → t σ H Q) : PT X e t' := ⟨fun pins s σ H Q I q => h.run pins s σ H Q I (hi σ H Q q)⟩
theorem PW.imp {X : Cx} {e : Expr} {t t' : TT} (h : PW X e t) (hi : ∀ σ H Q, t' σ H Q → t σ H Q) : PW X e t' := ⟨fun wh pins s σ H Q I q => h.run wh pins s σ H Q I (hi σ H Q q)⟩
theorem PS.imp {X : Cx} {e : Stmt} {t t' : TS} (h : PS X e t) (hi : ∀ D σ H, t' D σ H → t D σ H) : PS X e t' := ⟨fun pins s σ H D I q => h.run pins s σ H D I (hi D σ H q)⟩
theorem PSs.imp {X : Cx} {e : List Stmt} {t t' : TS} (h : PSs X e t) (hi : ∀ D σ H, t' D σ H → t D σ H) : PSs X e t' := ⟨fun pins s σ H D I q => h.run pins s σ H D I (hi D σ H q)⟩
theorem PG.imp {X : Cx} {e : Expr} {t t' : TG} (h : PG X e t) (hi : ∀ v σ H Q, t' v σ H Q → t v σ H Q) : PG X e t' := ⟨fun pins s σ H v u Q I r q => h.run pins s σ H v u Q I r (hi v σ H Q q)⟩

/-! ### names, constants, displays -/
section
variable {X : Cx} {pos : Pos}
def eVar (i : Nat) : EW := fun env A Q => ∃ d, env[i]? = some (some d) ∧ Q d A
def eC (d : D) : EW := fun _ A Q => Q d A
theorem lE.var {i : Nat} {σ : St} {H : Hp} {Q : VK} (h : lE X (eVar i) σ H Q) : tVar i σ H Q := by
  obtain ⟨env, A, Q', er, ar, ⟨d, h1, h2⟩, k⟩ := h
  obtain ⟨v, e1, e2⟩ := er.2 i d h1
  exact ⟨v, e1, k d A v H h2 (.refl H) ar e2⟩
theorem xv (i : Nat) {x : Str} {pos : Pos} (hN : X.N[i]? = some x := by rfl) (hv : Vis X.env.scope x := by first | exact Or.inl rfl | exact Or.inr (Or.inl rfl) | exact Or.inr (Or.inr rfl)) (hd : (x == ("__debug__" : Str)) = false := by decide)
    (hcd : (x == ("__classdict__" : Str)) = false := by decide) : PE X (.Name x pos) (lE X (eVar i)) := PE.imp (pv i hN hv hd hcd) fun _ _ _ h => h.var
theorem lE.con {v : V} {d : D} (tv : ∀ H, TV X.K H v d) {σ : St} {H : Hp} {Q : VK} (h : lE X (eC d) σ H Q) : tC v σ H Q := by
  obtain ⟨env, A, Q', er, ar, h2, k⟩ := h
  exact k d A v H h2 (.refl H) ar (tv H)
theorem xi {i j pos} : PE X (.Constant (.int i) j pos) (lE X (eC (.int i))) := PE.imp pe_int fun _ _ _ h => lE.con (fun _ => .int i) h
theorem xb {b j pos} : PE X (.Constant (.bool b) j pos) (lE X (eC (.bl b))) := PE.imp pe_bl fun _ _ _ h => lE.con (fun _ => .bl b) h
theorem xn {j pos} : PE X (.Constant .none j pos) (lE X (eC .non)) := PE.imp pe_non fun _ _ _ h => lE.con (fun _ => .non) h
theorem xs {x j pos} : PE X (.Constant (.str x) j pos) (lE X (eC (.str x))) := PE.imp pe_str fun _ _ _ h => lE.con (fun _ => .str x) h
/-- a constant of the module -/
theorem xglob {x : Str} {v : V} {d : D} {u : Value} {pos : Pos} (hg : Gl X x) (hm : X.mg x = some u) (r : RelV v u) (tv : ∀ H, TV X.K H v d) (hd : (x == ("__debug__" : Str)) = false := by decide) : PE X (.Name x pos) (lE X (eC d)) :=
  PE.imp (pe_glob hg hm r hd) fun _ _ _ h => lE.con tv h
/-- argument lists -/
def aNil : AW := fun _ A Q => Q [] A
def aCons (t : EW) (r : AW) : AW := fun env A Q => t env A fun d A1 => r env A1 fun ds A2 => Q (d :: ds) A2
theorem xa0 : PA X [] (lA X aNil) := PA.imp pa_nil fun σ H Q h => by
  obtain ⟨env, A, Q', er, ar, h2, k⟩ := h
  exact k [] A [] H h2 (.refl H) ar .nil
theorem xa {e : Expr} {es : List Expr} {t : EW} {r : AW} (ha : PE X e (lE X t)) (hr : PA X es (lA X r)) (hs : starEach (e :: es) X.env = (false, eval e X.env) :: starEach es X.env := by rfl) : PA X (e :: es) (lA X (aCons t r)) :=
  PA.imp (pa_cons ha hr hs) fun σ H Q h => by
    obtain ⟨env, A, Q', er, ar, h2, k⟩ := h
    refine ⟨env, A, _, er, ar, h2, fun d A1 v H1 q1 k1 ar1 tv1 => ?_⟩
    refine ⟨env, A1, _, er.keep k1, ar1, q1, fun ds A2 vs H2 q2 k2 ar2 tv2 => ?_⟩
    exact k _ A2 _ H2 q2 (k1.trans k2) ar2 (.cons (tv1.keep k2) tv2)
def eTup (t : AW) : EW := fun env A Q => t env A fun ds A1 => ds.length ≤ sizeLine ∧ Q (.tup ds) A1
/-- a list that is never changed -/
def eLst (t : AW) : EW := fun env A Q => t env A fun ds A1 => ds.length ≤ sizeLine ∧ Q (.lst ds) A1
/-- a list that may be changed -/
def eNew (t : AW) : EW := fun env A Q => t env A fun ds A1 => ds.length ≤ sizeLine ∧ ∀ p, A1 p = none → Q (.ref p) (upA A1 p (.lst ds))
theorem xtup {es : List Expr} {t : AW} {x1} (h : PA X es (lA X t)) : PE X (.Tuple es x1 pos) (lE X (eTup t)) := PE.imp (pe_tup h) fun σ H Q h => by
  obtain ⟨env, A, Q', er, ar, h2, k⟩ := h
  refine ⟨env, A, _, er, ar, h2, fun ds A1 vs H1 q1 k1 ar1 tv1 => ⟨tv1.length ▸ q1.1, fun p hp => ?_⟩⟩
  exact k _ A1 _ _ q1.2 (k1.trans (.new hp)) (ar1.new hp) (.tup (SqT.of upd_same) (tv1.keep (.new hp)))
theorem xnew {es : List Expr} {t : AW} (h : PA X es (lA X t)) : PE X (.List es pos) (lE X (eNew t)) := PE.imp (pe_lst h) fun σ H Q h => by
  obtain ⟨env, A, Q', er, ar, h2, k⟩ := h
  refine ⟨env, A, _, er, ar, h2, fun ds A1 vs H1 q1 k1 ar1 tv1 => ⟨tv1.length ▸ q1.1, fun p hp => ?_⟩⟩
  exact k _ _ _ _ (q1.2 p (ar1.fresh hp)) (k1.trans (.new hp)) (ar1.put (.new hp) ⟨vs, upd_same, tv1.keep (.new hp)⟩) (.ref p)
/-! ### a list is locked for good -/
theorem PE.frz {e : Expr} {t : TE} (h : PE X e t) : PE X e (fun σ H Q => t σ H fun v H1 => ∃ p xs, v = .ref p ∧ H1 p = some (.lst xs) ∧ ∀ o, Q v (upd H1 p (.frz o (.lst xs)))) :=
  ⟨fun pins s σ H Q I q => thn (h.run pins s σ H _ I q) fun u s1 ⟨v, H1, I1, r, p, xs, e1, e2, q1⟩ => by
    obtain ⟨o, I2⟩ := I1.lock e2 trivial
    exact ⟨v, _, I2, r, q1 o⟩⟩
def eFrz (t : EW) : EW := fun env A Q => t env A fun d A1 => ∃ p ds, d = .ref p ∧ A1 p = some (.lst ds) ∧ Q (.lst ds) (drop A1 p)
theorem xfrz {e : Expr} {t : EW} (h : PE X e (lE X t)) : PE X e (lE X (eFrz t)) := PE.imp (PE.frz h) fun σ H Q h => by
  obtain ⟨env, A, Q', er, ar, h2, k⟩ := h
  refine ⟨env, A, _, er, ar, h2, fun d A1 v H1 q1 k1 ar1 tv1 => ?_⟩
  obtain ⟨p, ds, rfl, ha, q1⟩ := q1
  cases tv1
  obtain ⟨vs, hp, tvs⟩ := ar1 p _ ha
  refine ⟨p, vs, rfl, hp, fun o => ?_⟩
  have kk : KeepT H1 (upd H1 p (.frz o (.lst vs))) := .mut hp trivial
  exact k _ _ _ _ q1 (k1.trans kk) (ar1.drop kk) (.lst ⟨o, upd_same⟩ (tvs.keep kk))
theorem xlst {es : List Expr} {t : AW} (h : PA X es (lA X t)) : PE X (.List es pos) (lE X (eLst t)) := PE.imp (PE.frz (pe_lst h)) fun σ H Q h => by
  obtain ⟨env, A, Q', er, ar, h2, k⟩ := h
  refine ⟨env, A, _, er, ar, h2, fun ds A1 vs H1 q1 k1 ar1 tv1 => ⟨tv1.length ▸ q1.1, fun p hp => ⟨p, vs, rfl, upd_same, fun o => ?_⟩⟩⟩
  rw [upd_upd]
  exact k _ A1 _ _ q1.2 (k1.trans (.new hp)) (ar1.new hp) (.lst ⟨o, upd_same⟩ (tv1.keep (.new hp)))
end
end TL

/-! TB: operators and comparisons of trees. -/
namespace TL
open PySem PySem.Spec L2
/-! ### trees as the library's data -/
mutual
def py : D → PyData
  | .non => .none | .bl b => .bool b | .int i => .int i | .str x => .str x | .tup ds => .tuple (pys ds) | .lst ds => .list (pys ds) | .ref _ => .none | .scr _ => .none
def pys : List D → List PyData
  | [] => []
  | d :: ds => py d :: pys ds
end
theorem pys_eq : ∀ ds : List D, pys ds = ds.map py
  | [] => rfl
  | d :: ds => by show py d :: pys ds = _; rw [pys_eq ds]; rfl
/-- numbers, texts, None, tuples and lists of these, n deep -/
def ok : Nat → D → Bool
  | _, .non => true
  | _, .int _ => true
  | _, .str _ => true
  | n + 1, .tup ds => ds.all (ok n)
  | n + 1, .lst ds => ds.all (ok n)
  | _, _ => false
theorem ok_mono : ∀ {n m : Nat} {d : D}, n ≤ m → ok n d = true → ok m d = true
  | n, m, .non, _, _ => by cases m <;> rfl
  | n, m, .int _, _, _ => by cases m <;> rfl
  | n, m, .str _, _, _ => by cases m <;> rfl
  | n, m, .bl _, _, h => by cases n <;> cases h
  | n, m, .ref _, _, h => by cases n <;> cases h
  | n, m, .scr _, _, h => by cases n <;> cases h
  | 0, m, .tup ds, _, h => by cases h
  | 0, m, .lst ds, _, h => by cases h
  | n + 1, m + 1, .tup ds, l, h => by
    have h' : ds.all (ok n) = true := h
    show ds.all (ok m) = true
    rw [List.all_eq_true] at h' ⊢
    exact fun x hx => ok_mono (by omega) (h' x hx)
  | n + 1, m + 1, .lst ds, l, h => by
    have h' : ds.all (ok n) = true := h
    show ds.all (ok m) = true
    rw [List.all_eq_true] at h' ⊢
    exact fun x hx => ok_mono (by omega) (h' x hx)
  | n + 1, 0, .tup ds, l, h => by omega
  | n + 1, 0, .lst ds, l, h => by omega
/-- data without truths, at most 16 deep -/
abbrev okE (d : D) : Bool := ok 16 d
section
variable {K : PySem.W.Frag} {H : Hp}
theorem DpAll.of : ∀ {vs : List V} {ds : List D} (n : Nat), TVs K H vs ds → (∀ v d, d ∈ ds → TV K H v d → ok n d = true → Dp K H v (py d)) → ds.all (ok n) = true → DpAll K H vs (pys ds)
  | _, _, n, .nil, _, _ => .nil
  | _, _, n, .cons (d := d) (ds := ds) h t, f, a => by
    rw [List.all_cons, Bool.and_eq_true] at a
    exact .cons (f _ d (by simp) h a.1) (DpAll.of n t (fun v d' hd => f v d' (by simp [hd])) a.2)
theorem TV.dp : ∀ (n : Nat) (v : V) (d : D), TV K H v d → ok n d = true → Dp K H v (py d)
  | n, _, .non, .non, _ => .non
  | n, _, .int i, .int _, _ => .int i
  | n, _, .str x, .str _, _ => .str x
  | n, _, .bl b, _, h => by cases n <;> cases h
  | n, _, .ref a, _, h => by cases n <;> cases h
  | n, _, .scr a, _, h => by cases n <;> cases h
  | 0, _, .tup ds, _, h => by cases h
  | 0, _, .lst ds, _, h => by cases h
  | n + 1, _, .tup ds, .tup h t, a => .tup h (DpAll.of n t (fun v d _ q r => TV.dp n v d q r) a)
  | n + 1, _, .lst ds, .lst h t, a => .lst h.sq (DpAll.of n t (fun v d _ q r => TV.dp n v d q r) a)
theorem TVs.dp {n : Nat} {vs : List V} {ds : List D} (t : TVs K H vs ds) (a : ds.all (ok n) = true) : DpAll K H vs (pys ds) := DpAll.of n t (fun v d _ q r => TV.dp n v d q r) a
end
theorem py_plain : ∀ (n : Nat) (d : D), ok n d = true → (py d).plain = true
  | n, .non, _ => rfl
  | n, .int i, _ => rfl
  | n, .str x, _ => rfl
  | n, .bl b, h => by cases n <;> cases h
  | n, .ref a, h => by cases n <;> cases h
  | n, .scr a, h => by cases n <;> cases h
  | 0, .tup ds, h => by cases h
  | 0, .lst ds, h => by cases h
  | n + 1, .tup ds, h => by
    have h' : ds.all (ok n) = true := h
    show PyData.plainAll (pys ds) = true
    rw [List.all_eq_true] at h'
    clear h
    induction ds with
    | nil => rfl
    | cons d ds ih =>
      show ((py d).plain && PyData.plainAll (pys ds)) = true
      rw [py_plain n d (h' d (by simp)), ih fun x hx => h' x (by simp [hx])]
      rfl
  | n + 1, .lst ds, h => by
    have h' : ds.all (ok n) = true := h
    show PyData.plainAll (pys ds) = true
    rw [List.all_eq_true] at h'
    clear h
    induction ds with
    | nil => rfl
    | cons d ds ih =>
      show ((py d).plain && PyData.plainAll (pys ds)) = true
      rw [py_plain n d (h' d (by simp)), ih fun x hx => h' x (by simp [hx])]
      rfl
theorem pys_plain {n : Nat} : ∀ {ds : List D}, ds.all (ok n) = true → PyData.plainAll (pys ds) = true
  | [], _ => rfl
  | d :: ds, h => by
    rw [List.all_cons, Bool.and_eq_true] at h
    show ((py d).plain && PyData.plainAll (pys ds)) = true
    rw [py_plain n d h.1, pys_plain h.2]
    rfl
theorem py_depth : ∀ (n : Nat) (d : D), ok n d = true → (py d).depth ≤ n
  | n, .non, _ => by show PyData.depth .none ≤ n; simp [PyData.depth]
  | n, .int i, _ => by show PyData.depth (.int i) ≤ n; simp [PyData.depth]
  | n, .str x, _ => by show PyData.depth (.str x) ≤ n; simp [PyData.depth]
  | n, .bl b, h => by cases n <;> cases h
  | n, .ref a, h => by cases n <;> cases h
  | n, .scr a, h => by cases n <;> cases h
  | 0, .tup ds, h => by cases h
  | 0, .lst ds, h => by cases h
  | n + 1, .tup ds, h => by
    have h' : ds.all (ok n) = true := h
    show PyData.depth (.tuple (pys ds)) ≤ n + 1
    rw [List.all_eq_true] at h'
    have : PyData.depthAll (pys ds) ≤ n := by
      clear h
      induction ds with
      | nil => show PyData.depthAll [] ≤ n; simp [PyData.depthAll]
      | cons d ds ih =>
        show PyData.depthAll (py d :: pys ds) ≤ n
        have h1 := py_depth n d (h' d (by simp))
        have h2 := ih fun x hx => h' x (by simp [hx])
        rw [PyData.depthAll]
        omega
    rw [PyData.depth]
    omega
  | n + 1, .lst ds, h => by
    have h' : ds.all (ok n) = true := h
    show PyData.depth (.list (pys ds)) ≤ n + 1
    rw [List.all_eq_true] at h'
    have : PyData.depthAll (pys ds) ≤ n := by
      clear h
      induction ds with
      | nil => show PyData.depthAll [] ≤ n; simp [PyData.depthAll]
      | cons d ds ih =>
        show PyData.depthAll (py d :: pys ds) ≤ n
        have h1 := py_depth n d (h' d (by simp))
        have h2 := ih fun x hx => h' x (by simp [hx])
        rw [PyData.depthAll]
        omega
    rw [PyData.depth]
    omega
theorem pys_depth {n : Nat} : ∀ {ds : List D}, ds.all (ok n) = true → PyData.depthAll (pys ds) ≤ n
  | [], _ => by show PyData.depthAll [] ≤ n; simp [PyData.depthAll]
  | d :: ds, h => by
    rw [List.all_cons, Bool.and_eq_true] at h
    show PyData.depthAll (py d :: pys ds) ≤ n
    have h1 := py_depth n d h.1
    have h2 := pys_depth (ds := ds) h.2
    rw [PyData.depthAll]
    omega
theorem beq_dec {α : Type} [BEq α] [LawfulBEq α] (a b : α) {p : Prop} [Decidable p] (h : a = b ↔ p) : (a == b) = decide p := by
  by_cases e : p
  · rw [decide_eq_true e, h.mpr e]; exact beq_self_eq_true b
  · rw [decide_eq_false e]; exact beq_eq_false_iff_ne.mpr fun q => e (h.mp q)
/-- == of data is being the same tree -/
theorem py_eqv : ∀ (n : Nat) (x y : D) (m : Nat), ok n x = true → ok m y = true → (PyData.eqv (py x) (py y) = true ↔ x = y) := by
  intro n
  have key : ∀ (n : Nat), (∀ (x y : D) (m : Nat), ok n x = true → ok m y = true → (PyData.eqv (py x) (py y) = true ↔ x = y)) → ∀ (xs ys : List D) (m : Nat), xs.all (ok n) = true → ys.all (ok m) = true → (PyData.eqvAll (pys xs) (pys ys) = true ↔ xs = ys) := by
    intro n ih xs
    induction xs with
    | nil =>
      intro ys m _ _
      cases ys with
      | nil => simp [pys, PyData.eqvAll]
      | cons y ys => simp [pys, PyData.eqvAll]
    | cons x xs ihl =>
      intro ys m hx hy
      cases ys with
      | nil => simp [pys, PyData.eqvAll]
      | cons y ys =>
        rw [List.all_cons, Bool.and_eq_true] at hx hy
        show (PyData.eqv (py x) (py y) && PyData.eqvAll (pys xs) (pys ys)) = true ↔ _
        rw [Bool.and_eq_true, ih x y m hx.1 hy.1, ihl ys m hx.2 hy.2]
        simp
  induction n with
  | zero =>
    intro x y m hx hy
    cases x <;> first | exact (Bool.false_ne_true hx).elim | (cases y <;> first | (cases m <;> cases hy; done) | simp [py, PyData.eqv])
  | succ n ih =>
    intro x y m hx hy
    cases x with
    | bl b => cases hx
    | ref a => cases hx
    | scr a => cases hx
    | non => cases y <;> first | (cases m <;> cases hy; done) | simp [py, PyData.eqv]
    | int i => cases y <;> first | (cases m <;> cases hy; done) | simp [py, PyData.eqv]
    | str i => cases y <;> first | (cases m <;> cases hy; done) | simp [py, PyData.eqv]
    | tup xs =>
      cases y with
      | tup ys =>
        cases m with
        | zero => cases hy
        | succ m =>
          show PyData.eqvAll (pys xs) (pys ys) = true ↔ _
          rw [key n ih xs ys m hx hy]
          simp
      | _ => first | (cases m <;> cases hy; done) | simp [py, PyData.eqv]
    | lst xs =>
      cases y with
      | lst ys =>
        cases m with
        | zero => cases hy
        | succ m =>
          show PyData.eqvAll (pys xs) (pys ys) = true ↔ _
          rw [key n ih xs ys m hx hy]
          simp
      | _ => first | (cases m <;> cases hy; done) | simp [py, PyData.eqv]
theorem py_eqvB {n m : Nat} {x y : D} (hx : ok n x = true) (hy : ok m y = true) : PyData.eqv (py x) (py y) = decide (x = y) := by
  have h := py_eqv n x y m hx hy
  by_cases e : x = y
  · rw [decide_eq_true e]; exact h.mpr e
  · rw [decide_eq_false e]
    cases q : PyData.eqv (py x) (py y) with
    | false => rfl
    | true => exact absurd (h.mp q) e
theorem any_eqvB {n m : Nat} {y : D} (hy : ok m y = true) : ∀ {xs : List D}, xs.all (ok n) = true → ((pys xs).any fun z => PyData.eqv z (py y)) = decide (y ∈ xs)
  | [], _ => by simp [pys]
  | x :: xs, h => by
    rw [List.all_cons, Bool.and_eq_true] at h
    show (PyData.eqv (py x) (py y) || (pys xs).any fun z => PyData.eqv z (py y)) = _
    rw [py_eqvB h.1 hy, any_eqvB hy h.2]
    by_cases e : x = y
    · subst e; simp
    · have e' : ¬ y = x := fun q => e q.symm
      simp [e, e']

/-! ### the less of two trees -/
mutual
/-- place by place of one kind -/
def alk : D → D → Bool
  | .int _, .int _ => true
  | .str _, .str _ => true
  | .tup xs, .tup ys => alks xs ys
  | .lst xs, .lst ys => alks xs ys
  | _, _ => false
def alks : List D → List D → Bool
  | x :: xs, y :: ys => alk x y && alks xs ys
  | [], _ => true
  | _ :: _, [] => true
end
mutual
noncomputable def ltD : D → D → Bool
  | .int i, .int j => decide (i < j)
  | .str x, .str y => decide (x.cps.toList < y.cps.toList)
  | .tup xs, .tup ys => ltDs xs ys
  | .lst xs, .lst ys => ltDs xs ys
  | _, _ => false
noncomputable def ltDs : List D → List D → Bool
  | [], [] => false
  | [], _ :: _ => true
  | _ :: _, [] => false
  | x :: xs, y :: ys => if x = y then ltDs xs ys else ltD x y
end
open PySem.W in
theorem alk_py : ∀ (n : Nat) (x y : D), ok n x = true → alk x y = true → alike (py x) (py y) = true := by
  intro n
  have key : ∀ n : Nat, (∀ (x y : D), ok n x = true → alk x y = true → alike (py x) (py y) = true) → ∀ (xs ys : List D), xs.all (ok n) = true → alks xs ys = true → alikeAll (pys xs) (pys ys) = true := by
    intro n ih xs
    induction xs with
    | nil => intro ys _ _; simp [pys, alikeAll]
    | cons x xs ihl =>
      intro ys hx hy
      cases ys with
      | nil => simp [pys, alikeAll]
      | cons y ys =>
        rw [List.all_cons, Bool.and_eq_true] at hx
        have hy' : (alk x y && alks xs ys) = true := by simpa [alks] using hy
        rw [Bool.and_eq_true] at hy'
        simp [pys, alikeAll, ih x y hx.1 hy'.1, ihl ys hx.2 hy'.2]
  induction n with
  | zero =>
    intro x y hx hy
    cases x <;> first | exact (Bool.false_ne_true hx).elim | (cases y <;> first | (simp [alk] at hy; done) | simp [py, alike])
  | succ n ih =>
    intro x y hx hy
    cases x with
    | tup xs =>
      cases y with
      | tup ys =>
        have := key n ih xs ys hx (by simpa [alk] using hy)
        simpa [py, alike] using this
      | _ => simp [alk] at hy
    | lst xs =>
      cases y with
      | lst ys =>
        have := key n ih xs ys hx (by simpa [alk] using hy)
        simpa [py, alike] using this
      | _ => simp [alk] at hy
    | int i => cases y <;> first | (simp [alk] at hy; done) | simp [py, alike]
    | str i => cases y <;> first | (simp [alk] at hy; done) | simp [py, alike]
    | _ => simp [alk] at hy
open PySem.W in
theorem ltD_py : ∀ (n : Nat) (x y : D), ok n x = true → ok n y = true → alk x y = true → dataLt (py x) (py y) = ltD x y := by
  intro n
  have key : ∀ n : Nat, (∀ (x y : D), ok n x = true → ok n y = true → alk x y = true → dataLt (py x) (py y) = ltD x y) → ∀ (xs ys : List D), xs.all (ok n) = true → ys.all (ok n) = true → alks xs ys = true → PyProof.Rows.lexLt PyProof.Rows.itemOrd (keyToksAll (pys xs)) (keyToksAll (pys ys)) = ltDs xs ys := by
    intro n ih xs
    induction xs with
    | nil =>
      intro ys _ _ _
      cases ys with
      | nil => simp [pys, ltDs, keyToksAll, PyProof.Rows.lex_irrefl]
      | cons y ys =>
        show PyProof.Rows.lexLt PyProof.Rows.itemOrd (keyToksAll []) (keyToksAll (py y :: pys ys)) = true
        rw [toks_all_cons]
        simp only [keyToksAll]
        rw [PyProof.Rows.lex_diff (O := PyProof.Rows.itemOrd) (by simp)]
        simp [PyProof.Rows.itemLt]
    | cons x xs ihl =>
      intro ys hx hy ha
      cases ys with
      | nil =>
        show PyProof.Rows.lexLt PyProof.Rows.itemOrd (keyToksAll (py x :: pys xs)) (keyToksAll []) = false
        rw [toks_all_cons]
        simp only [keyToksAll]
        rw [PyProof.Rows.lex_diff (O := PyProof.Rows.itemOrd) (by simp)]
        simp [PyProof.Rows.itemLt]
      | cons y ys =>
        rw [List.all_cons, Bool.and_eq_true] at hx hy
        have ha' : (alk x y && alks xs ys) = true := by simpa [alks] using ha
        rw [Bool.and_eq_true] at ha'
        have ak := alk_py n x y hx.1 ha'.1
        show PyProof.Rows.lexLt PyProof.Rows.itemOrd (keyToksAll (py x :: pys xs)) (keyToksAll (py y :: pys ys)) = ltDs (x :: xs) (y :: ys)
        rw [ltDs]
        by_cases e : x = y
        · rw [if_pos e, dataLt_all_yes ak (by rw [py_eqvB hx.1 hy.1]; exact decide_eq_true e), ihl ys hx.2 hy.2 ha'.2]
        · rw [if_neg e, dataLt_all_no ak (by rw [py_eqvB hx.1 hy.1]; exact decide_eq_false e), ih x y hx.1 hy.1 ha'.1]
  have atom : ∀ x y : D, (∀ xs, x ≠ .tup xs) → (∀ xs, x ≠ .lst xs) → alk x y = true → dataLt (py x) (py y) = ltD x y := by
    intro x y h1 h2 ha
    cases x with
    | int i =>
      cases y with
      | int j => simp [py, ltD, dataLt_int]
      | _ => simp [alk] at ha
    | str i =>
      cases y with
      | str j => simp [py, ltD, dataLt_str]
      | _ => simp [alk] at ha
    | tup xs => exact absurd rfl (h1 xs)
    | lst xs => exact absurd rfl (h2 xs)
    | _ => simp [alk] at ha
  induction n with
  | zero =>
    intro x y hx hy ha
    exact atom x y (fun xs e => by subst e; cases hx) (fun xs e => by subst e; cases hx) ha
  | succ n ih =>
    intro x y hx hy ha
    cases x with
    | tup xs =>
      cases y with
      | tup ys =>
        have := key n ih xs ys hx hy (by simpa [alk] using ha)
        rw [ltD]
        exact this
      | _ => simp [alk] at ha
    | lst xs =>
      cases y with
      | lst ys =>
        have := key n ih xs ys hx hy (by simpa [alk] using ha)
        rw [ltD]
        exact this
      | _ => simp [alk] at ha
    | _ => exact atom _ y (fun xs e => nomatch e) (fun xs e => nomatch e) ha
end TL

/-! TC: operators as rules. -/
namespace TL
open PySem PySem.Spec L2
abbrev RD := D → D → SD → QD → Prop
section
variable (X : Cx)
def lR (rd : RD) : R2 := fun vx vy H Q => ∃ x y A Q', ARx X A H ∧ TV X.K H vx x ∧ TV X.K H vy y ∧ rd x y A Q' ∧ ∀ d A' v H', Q' d A' → KeepT H H' → ARx X A' H' → TV X.K H' v d → Q v H'
def lCall (rd : List D → SD → QD → Prop) : List V → Hp → VK → Prop := fun vs H Q => ∃ ds A Q', ARx X A H ∧ TVs X.K H vs ds ∧ rd ds A Q' ∧ ∀ d A' v H', Q' d A' → KeepT H H' → ARx X A' H' → TV X.K H' v d → Q v H'
def lMt (rd : D → List D → SD → QD → Prop) : V → List V → Hp → VK → Prop := fun vx vs H Q => ∃ x ds A Q', ARx X A H ∧ TV X.K H vx x ∧ TVs X.K H vs ds ∧ rd x ds A Q' ∧ ∀ d A' v H', Q' d A' → KeepT H H' → ARx X A' H' → TV X.K H' v d → Q v H'
end
def eOp (rd : RD) (ta tb : EW) : EW := fun env A Q => ta env A fun x A1 => tb env A1 fun y A2 => rd x y A2 Q
def tVal (t : EW) : TW := fun env A Q => t env A fun d A1 => ∃ b, d = .bl b ∧ Q b A1
section
variable {X : Cx} {a b : Expr} {ta tb : EW} {pos : Pos} {rd : RD}
theorem lE.two {σ : L2.St} {H : Hp} {Q : VK} (h : lE X (eOp rd ta tb) σ H Q) : lE X ta σ H fun v1 H1 => lE X tb σ H1 fun v2 H2 => lR X rd v1 v2 H2 Q := by
  obtain ⟨env, A, Q', er, ar, h2, k⟩ := h
  refine ⟨env, A, _, er, ar, h2, fun x A1 v1 H1 q1 k1 ar1 tv1 => ?_⟩
  refine ⟨env, A1, _, er.keep k1, ar1, q1, fun y A2 v2 H2 q2 k2 ar2 tv2 => ?_⟩
  exact ⟨x, y, A2, Q', ar2, tv1.keep k2, tv2, q2, fun d A' v H' q k3 ar' tv => k d A' v H' q ((k1.trans k2).trans k3) ar' tv⟩
theorem xop {op : Operator} (ho : OpR X (binaryOp op) (lR X rd)) (ha : PE X a (lE X ta)) (hb : PE X b (lE X tb)) : PE X (.BinOp a op b pos) (lE X (eOp rd ta tb)) := PE.imp (pe_op ho ha hb) fun _ _ _ h => h.two
theorem xcmp {op : CmpOp} (ho : OpR X (compareOp op) (lR X rd)) (ha : PE X a (lE X ta)) (hb : PE X b (lE X tb)) (hm : behindInMarks op b = false) : PE X (.Compare a [op] [b] pos) (lE X (eOp rd ta tb)) := PE.imp (pe_cmpR ho ha hb hm) fun _ _ _ h => h.two
theorem lT.val {t : EW} {σ : L2.St} {H : Hp} {Q : Bool → Hp → Prop} (h : lT X (tVal t) σ H Q) : lE X t σ H fun v H1 => ∃ k, v = .bl k ∧ Q k H1 := by
  obtain ⟨env, A, Q', er, ar, h2, k⟩ := h
  refine ⟨env, A, _, er, ar, h2, fun d A1 v H1 q1 k1 ar1 tv1 => ?_⟩
  obtain ⟨b, rfl, q⟩ := q1
  cases tv1
  exact ⟨b, rfl, k b A1 H1 q k1 ar1⟩
theorem xtcmp {op : CmpOp} (ho : OpR X (compareOp op) (lR X rd)) (ha : PE X a (lE X ta)) (hb : PE X b (lE X tb)) (hm : behindInMarks op b = false) : PT X (.Compare a [op] [b] pos) (lT X (tVal (eOp rd ta tb))) :=
  PT.imp (pt_cmpR ho ha hb hm) fun σ H Q h => (lT.val h).two
/-- an expression that gives a truth, as a test -/
theorem xtv {e : Expr} {t : EW} (h : PE X e (lE X t)) (he : ∀ whole, isTrue e X.env whole = (do let v ← whole; standAt e.pos; holding [v] (truthy v)) := by intro _; rfl) : PT X e (lT X (tVal t)) :=
  PT.imp (pt_val h he) fun σ H Q h => lT.val h
end
/-! ### a new list -/
def MkL (X : Cx) (pins : List (Addr × Obj)) (σ : L2.St) (H : Hp) (zs : List V) (u : Value) (s' : Shared) : Prop := ∃ p, H p = none ∧ u = .ref p ∧ Inv X pins σ (upd H p (.lst zs)) s'
section
variable {X : Cx} {pins : List (Addr × Obj)} {σ : L2.St} {H : Hp} {s : Shared} {A : SD} {zs : List V} {ds : List D} {u : Value} {Q : VK} {Q' : QD}
theorem MkL.mut (m : MkL X pins σ H zs u s) (ar : ARx X A H) (tv : TVs X.K H zs ds) (k : ∀ d A' v H', Q' d A' → KeepT H H' → ARx X A' H' → TV X.K H' v d → Q v H') (q : ∀ p, A p = none → Q' (.ref p) (upA A p (.lst ds))) : EP X pins σ Q u s := by
  obtain ⟨p, hp, rfl, I⟩ := m
  exact ⟨.ref p, _, I, rfl, k _ _ _ _ (q p (ar.fresh hp)) (.new hp) (ar.put (.new hp) ⟨zs, upd_same, tv.keep (.new hp)⟩) (.ref p)⟩
theorem MkL.fz (m : MkL X pins σ H zs u s) (ar : ARx X A H) (tv : TVs X.K H zs ds) (k : ∀ d A' v H', Q' d A' → KeepT H H' → ARx X A' H' → TV X.K H' v d → Q v H') (q : Q' (.lst ds) A) : EP X pins σ Q u s := by
  obtain ⟨p, hp, rfl, I⟩ := m
  obtain ⟨o, I2⟩ := I.lock upd_same trivial
  rw [upd_upd] at I2
  exact ⟨.ref p, _, I2, rfl, k _ _ _ _ q (.new hp) (ar.new hp) (.lst ⟨o, upd_same⟩ (tv.keep (.new hp)))⟩
/-- the items of a list, locked, changing or the script -/
def lv (A : SD) : D → Option (List D)
  | .lst ds => some ds
  | .scr ns => some (ns.map .int)
  | .ref p => match A p with
    | some (.lst ds) => some ds
    | _ => none
  | _ => none
/-- .. without the script -/
def lw (A : SD) : D → Option (List D)
  | .lst ds => some ds
  | .ref p => match A p with
    | some (.lst ds) => some ds
    | _ => none
  | _ => none
theorem TVs.ints {K : PySem.W.Frag} {H : Hp} : ∀ ns : List Int, TVs K H (ns.map V.int) (ns.map D.int)
  | [] => .nil
  | n :: ns => .cons (.int n) (TVs.ints ns)
theorem lw_at {d : D} {v : V} (ar : ARx X A H) (tv : TV X.K H v d) (h : lw A d = some ds) : ∃ a vs, v = .ref a ∧ (H a = some (.lst vs) ∨ ∃ o, H a = some (.frz o (.lst vs))) ∧ TVs X.K H vs ds := by
  cases tv with
  | lst h1 h2 =>
    cases h
    exact ⟨_, _, rfl, .inr h1, h2⟩
  | ref a =>
    have h' : (match A a with | some (.lst ds) => some ds | _ => none) = some ds := h
    split at h'
    · rename_i q
      cases h'
      obtain ⟨vs, h1, h2⟩ := ar _ _ q
      exact ⟨a, vs, rfl, .inl h1, h2⟩
    · cases h'
  | _ => exact (nomatch (show (none : Option (List D)) = some ds from h))
theorem lv_sq {d : D} {v : V} (ar : ARx X A H) (tv : TV X.K H v d) (h : lv A d = some ds) : ∃ a vs, v = .ref a ∧ SqL X.K H a vs ∧ TVs X.K H vs ds := by
  cases d with
  | scr ns =>
    cases h
    cases tv with
    | scr h1 => exact ⟨_, _, rfl, h1.sq, TVs.ints ns⟩
  | lst l =>
    obtain ⟨a, vs, h1, h2, h3⟩ := lw_at (d := .lst l) ar tv h
    refine ⟨a, vs, h1, ?_, h3⟩
    rcases h2 with h2 | ⟨o, h2⟩
    · exact .inl (.inl h2)
    · exact .inl (.inr ⟨o, h2⟩)
  | ref p =>
    obtain ⟨a, vs, h1, h2, h3⟩ := lw_at (d := .ref p) ar tv h
    refine ⟨a, vs, h1, ?_, h3⟩
    rcases h2 with h2 | ⟨o, h2⟩
    · exact .inl (.inl h2)
    · exact .inl (.inr ⟨o, h2⟩)
  | _ => cases h
theorem _root_.L2.Inv.lstA {X : Cx} {pins : List (Addr × Obj)} {σ : L2.St} {H : Hp} {s : Shared} {l : Addr} {xs : List V} (I : Inv X pins σ H s) (h : H l = some (.lst xs) ∨ ∃ o, H l = some (.frz o (.lst xs))) :
    xs.length ≤ sizeLine ∧ ∃ (its : List Value) (n : Nat), Vals xs its ∧ xs.length = its.length ∧ s.heap.get? l = some { cls := .type "list", data := .seq its.toArray n } := by
  rcases h with h | ⟨o, h⟩
  · exact I.lstM h
  · obtain ⟨_, z, its, n, r, e⟩ := I.hok l _ h
    exact ⟨z, its, n, r, r.length, e⟩
end
section
variable {X : Cx}
/-! ### + -/
def rAdd' : RD := fun x y A Q => match x, y with
  | .int i, .int j => Q (.int (i + j)) A
  | .str x, .str y => x.length + y.length ≤ sizeLine ∧ Q (.str (x ++ y)) A
  | .tup xs, .tup ys => xs.length + ys.length ≤ sizeLine ∧ Q (.tup (xs ++ ys)) A
  | _, _ => False
theorem o_add : OpR X (binaryOp .Add) (lR X rAdd') := by
  intro pins s σ H vx vy v u Q I rx ry h
  obtain ⟨x, y, A, Q', ar, tx, ty, h, k⟩ := h
  cases tx with
  | int i =>
    cases ty with
    | int j => exact op_add pins s σ H _ _ v u Q I rx ry ⟨i, j, rfl, rfl, k _ _ _ _ h (.refl _) ar (.int _)⟩
    | _ => exact h.elim
  | str i =>
    cases ty with
    | str j => exact op_add_str pins s σ H _ _ v u Q I rx ry ⟨i, j, rfl, rfl, h.1, k _ _ _ _ h.2 (.refl _) ar (.str _)⟩
    | _ => exact h.elim
  | tup h1 t1 =>
    cases ty with
    | tup h2 t2 =>
      refine op_catA pins s σ H _ _ v u Q I rx ry ⟨_, _, _, _, rfl, rfl, h1, h2, by rw [t1.length, t2.length]; exact h.1, fun e => ?_, fun _ e => ?_, fun _ _ p hp => ?_⟩
      · subst e
        cases t1
        exact k _ _ _ _ h.2 (.refl _) ar (.tup h2 t2)
      · subst e
        cases t2
        refine k _ _ _ _ h.2 (.refl _) ar ?_
        rw [List.append_nil]
        exact .tup h1 t1
      · exact k _ _ _ _ h.2 (.new hp) (ar.new hp) (.tup (SqT.of upd_same) ((t1.append t2).keep (.new hp)))
    | _ => exact h.elim
  | _ => exact h.elim
theorem cat_core {pins : List (Addr × Obj)} {s : Shared} {σ : L2.St} {H : Hp} {l b : Addr} {xs zs : List V} (I : Inv X pins σ H s) (hH : H l = some (.lst xs) ∨ ∃ o, H l = some (.frz o (.lst xs))) (hB : H b = some (.lst zs) ∨ ∃ o, H b = some (.frz o (.lst zs)))
    (hz : xs.length + zs.length ≤ sizeLine) : wpAny (model X.prog X.w) X.A (binaryOp .Add (.ref l) (.ref b)) (MkL X pins σ H (xs ++ zs)) X.xe s := by
  obtain ⟨z, its, n, r, hl, e⟩ := I.lstA hH
  obtain ⟨z2, its2, n2, r2, hl2, e2⟩ := I.lstA hB
  refine PySem.P.add_list e e2 ?_ (by rw [List.size_toArray, List.size_toArray]; omega)
  have ea : its.toArray ++ its2.toArray = (its ++ its2).toArray := by simp
  rw [ea]
  exact ⟨_, I.fresh, rfl, I.lnew (t' := s.toks) (r.append r2) (by rw [List.length_append]; omega)⟩
/-- lists, the sum locked -/
def rAddF : RD := fun x y A Q => ∃ xs ys, lw A x = some xs ∧ lw A y = some ys ∧ xs.length + ys.length ≤ sizeLine ∧ Q (.lst (xs ++ ys)) A
/-- lists, the sum may be changed -/
def rAddM : RD := fun x y A Q => ∃ xs ys, lw A x = some xs ∧ lw A y = some ys ∧ xs.length + ys.length ≤ sizeLine ∧ ∀ p, A p = none → Q (.ref p) (upA A p (.lst (xs ++ ys)))
theorem o_addF : OpR X (binaryOp .Add) (lR X rAddF) := by
  intro pins s σ H vx vy v u Q I rx ry h
  obtain ⟨x, y, A, Q', ar, tx, ty, ⟨xs, ys, e1, e2, hz, q⟩, k⟩ := h
  obtain ⟨a, vs, rfl, h1, t1⟩ := lw_at ar tx e1
  obtain ⟨b, ws, rfl, h2, t2⟩ := lw_at ar ty e2
  cases rx
  cases ry
  exact thn (cat_core I h1 h2 (by rw [t1.length, t2.length]; exact hz)) fun u s' m => m.fz ar (t1.append t2) k q
theorem o_addM : OpR X (binaryOp .Add) (lR X rAddM) := by
  intro pins s σ H vx vy v u Q I rx ry h
  obtain ⟨x, y, A, Q', ar, tx, ty, ⟨xs, ys, e1, e2, hz, q⟩, k⟩ := h
  obtain ⟨a, vs, rfl, h1, t1⟩ := lw_at ar tx e1
  obtain ⟨b, ws, rfl, h2, t2⟩ := lw_at ar ty e2
  cases rx
  cases ry
  exact thn (cat_core I h1 h2 (by rw [t1.length, t2.length]; exact hz)) fun u s' m => m.mut ar (t1.append t2) k q
/-! ### other operators of whole numbers -/
def rInt (C : Int → Int → Prop) (g : Int → Int → Int) : RD := fun x y A Q => match x, y with
  | .int i, .int j => C i j ∧ Q (.int (g i j)) A
  | _, _ => False
theorem o_int {f : Value → Value → Sem Value} {C : Int → Int → Prop} {g : Int → Int → Int} (ho : OpR X f (rI C fun i j => .int (g i j))) : OpR X f (lR X (rInt C g)) := by
  intro pins s σ H vx vy v u Q I rx ry h
  obtain ⟨x, y, A, Q', ar, tx, ty, h, k⟩ := h
  cases tx with
  | int i =>
    cases ty with
    | int j => exact ho pins s σ H _ _ v u Q I rx ry ⟨i, j, rfl, rfl, h.1, k _ _ _ _ h.2 (.refl _) ar (.int _)⟩
    | _ => exact h.elim
  | _ => exact h.elim
def rInt0 (g : Int → Int → Int) : RD := fun x y A Q => match x, y with
  | .int i, .int j => Q (.int (g i j)) A
  | _, _ => False
theorem o_int0 {f : Value → Value → Sem Value} {g : Int → Int → Int} (ho : OpR X f (rI0 fun i j => .int (g i j))) : OpR X f (lR X (rInt0 g)) := by
  intro pins s σ H vx vy v u Q I rx ry h
  obtain ⟨x, y, A, Q', ar, tx, ty, h, k⟩ := h
  cases tx with
  | int i =>
    cases ty with
    | int j => exact ho pins s σ H _ _ v u Q I rx ry ⟨i, j, rfl, rfl, k _ _ _ _ h (.refl _) ar (.int _)⟩
    | _ => exact h.elim
  | _ => exact h.elim
abbrev rSub' : RD := rInt0 fun i j => i - j
theorem o_sub : OpR X (binaryOp .Sub) (lR X rSub') := o_int0 op_sub
abbrev rMul' : RD := rInt CMul fun i j => i * j
theorem o_mul : OpR X (binaryOp .Mult) (lR X rMul') := o_int op_mul
abbrev rFdiv : RD := rInt CDiv fun i j => i / j
theorem o_fdiv : OpR X (binaryOp .FloorDiv) (lR X rFdiv) := o_int op_fdiv
abbrev rMod : RD := rInt (fun _ j => 0 < j) fun i j => i % j
theorem o_mod : OpR X (binaryOp .Mod) (lR X rMod) := o_int op_mod
abbrev rPow : RD := rInt CPow fun i j => i ^ j.toNat
theorem o_pow : OpR X (binaryOp .Pow) (lR X rPow) := o_int op_pow
abbrev rShl : RD := rInt CPow fun i j => i * 2 ^ j.toNat
theorem o_shl : OpR X (binaryOp .LShift) (lR X rShl) := o_int op_shl
abbrev rShr : RD := rInt (fun _ j => 0 ≤ j) fun i j => i / 2 ^ j.toNat
theorem o_shr : OpR X (binaryOp .RShift) (lR X rShr) := o_int op_shr
abbrev rBAnd : RD := rInt0 Builtin.bitAnd
theorem o_band : OpR X (binaryOp .BitAnd) (lR X rBAnd) := o_int0 op_and
abbrev rBOr : RD := rInt0 Builtin.bitOr
theorem o_bor : OpR X (binaryOp .BitOr) (lR X rBOr) := o_int0 op_or
/-! ### comparisons -/
def rCmpI (g : Int → Int → Bool) : RD := fun x y A Q => match x, y with
  | .int i, .int j => Q (.bl (g i j)) A
  | _, _ => False
theorem o_cmpI {f : Value → Value → Sem Value} {g : Int → Int → Bool} (ho : OpR X f (rI0 fun i j => .bl (g i j))) : OpR X f (lR X (rCmpI g)) := by
  intro pins s σ H vx vy v u Q I rx ry h
  obtain ⟨x, y, A, Q', ar, tx, ty, h, k⟩ := h
  cases tx with
  | int i =>
    cases ty with
    | int j => exact ho pins s σ H _ _ v u Q I rx ry ⟨i, j, rfl, rfl, k _ _ _ _ h (.refl _) ar (.bl _)⟩
    | _ => exact h.elim
  | _ => exact h.elim
abbrev rLt' : RD := rCmpI fun i j => decide (i < j)
theorem o_lt : OpR X (compareOp .Lt) (lR X rLt') := o_cmpI op_lt
abbrev rLe' : RD := rCmpI fun i j => decide (i ≤ j)
theorem o_le : OpR X (compareOp .LtE) (lR X rLe') := o_cmpI op_le
abbrev rGt' : RD := rCmpI fun i j => decide (j < i)
theorem o_gt : OpR X (compareOp .Gt) (lR X rGt') := o_cmpI op_gt
abbrev rGe' : RD := rCmpI fun i j => decide (j ≤ i)
theorem o_ge : OpR X (compareOp .GtE) (lR X rGe') := o_cmpI op_ge
/-- tuples of one shape: the less -/
noncomputable def rLtD : RD := fun x y A Q => okE x = true ∧ okE y = true ∧ alk x y = true ∧ Q (.bl (ltD x y)) A
theorem o_ltD (hu : X.A.units + 64 < cLine) : OpR X (compareOp .Lt) (lR X rLtD) := by
  intro pins s σ H vx vy v u Q I rx ry h
  obtain ⟨x, y, A, Q', ar, tx, ty, ⟨o1, o2, ak, q⟩, k⟩ := h
  obtain ⟨as, r1⟩ := Dp.reads I _ _ _ (TV.dp 16 _ _ tx o1) rx
  obtain ⟨bs, r2⟩ := Dp.reads I _ _ _ (TV.dp 16 _ _ ty o2) ry
  have hd := py_depth 16 x o1
  have hn : py x ≠ .none := by cases x <;> simp [alk] at ak <;> simp [py]
  refine PySem.W.rcLt_alike (py x) (py y) X.A s v u as bs r1 r2 (alk_py 16 x y o1 ak) hn (by omega) _ _ _ _ ?_
  refine ⟨.bl _, H, I, rfl, ?_⟩
  rw [ltD_py 16 x y o1 o2 ak]
  exact k _ _ _ _ q (.refl _) ar (.bl _)
/-- the tree of a thing that may be compared: a list that may be changed counts by its items -/
def vw (A : SD) (d : D) : D := match lw A d with
  | some ds => .lst ds
  | none => d
theorem vw_dp {A : SD} {H : Hp} {v : V} {d : D} (ar : ARx X A H) (tv : TV X.K H v d) (h : okE (vw A d) = true) : Dp X.K H v (py (vw A d)) := by
  unfold vw at h ⊢
  cases e : lw A d with
  | none => rw [e] at h; exact TV.dp 16 _ _ tv h
  | some ds =>
    rw [e] at h
    obtain ⟨a, vs, rfl, h1, t1⟩ := lw_at ar tv e
    have hs : SqL X.K H a vs := by
      rcases h1 with h1 | ⟨o, h1⟩
      · exact .inl (.inl h1)
      · exact .inl (.inr ⟨o, h1⟩)
    exact .lst hs (t1.dp (n := 15) h)
def rEq' : RD := fun x y A Q => okE (vw A x) = true ∧ okE (vw A y) = true ∧ Q (.bl (decide (vw A x = vw A y))) A
def rNe' : RD := fun x y A Q => okE (vw A x) = true ∧ okE (vw A y) = true ∧ Q (.bl (!decide (vw A x = vw A y))) A
theorem o_eq (hu : X.A.units + 64 < cLine) : OpR X (compareOp .Eq) (lR X rEq') := by
  intro pins s σ H vx vy v u Q I rx ry h
  obtain ⟨x, y, A, Q', ar, tx, ty, ⟨o1, o2, q⟩, k⟩ := h
  obtain ⟨as, r1⟩ := Dp.reads I _ _ _ (vw_dp ar tx o1) rx
  obtain ⟨bs, r2⟩ := Dp.reads I _ _ _ (vw_dp ar ty o2) ry
  have hd := py_depth 16 _ o1
  refine PySem.SeqAt.eq_plain r1 r2 (py_plain 16 _ o1) (py_plain 16 _ o2) (by omega) ⟨.bl _, H, I, rfl, ?_⟩
  rw [py_eqvB o1 o2]
  exact k _ _ _ _ q (.refl _) ar (.bl _)
theorem o_ne (hu : X.A.units + 64 < cLine) : OpR X (compareOp .NotEq) (lR X rNe') := by
  intro pins s σ H vx vy v u Q I rx ry h
  obtain ⟨x, y, A, Q', ar, tx, ty, ⟨o1, o2, q⟩, k⟩ := h
  obtain ⟨as, r1⟩ := Dp.reads I _ _ _ (vw_dp ar tx o1) rx
  obtain ⟨bs, r2⟩ := Dp.reads I _ _ _ (vw_dp ar ty o2) ry
  have hd := py_depth 16 _ o1
  refine PySem.SeqAt.ne_plain r1 r2 (py_plain 16 _ o1) (py_plain 16 _ o2) (by omega) ⟨.bl _, H, I, rfl, ?_⟩
  rw [py_eqvB o1 o2]
  exact k _ _ _ _ q (.refl _) ar (.bl _)
/-! ### in -/
/-- in a tuple or a list -/
def sv (A : SD) : D → Option (List D)
  | .tup ds => some ds
  | d => lw A d
def rIn' : RD := fun x y A Q => ∃ ys, sv A y = some ys ∧ okE x = true ∧ ys.all (ok 15) = true ∧ Q (.bl (decide (x ∈ ys))) A
def rNotIn' : RD := fun x y A Q => ∃ ys, sv A y = some ys ∧ okE x = true ∧ ys.all (ok 15) = true ∧ Q (.bl (!decide (x ∈ ys))) A
theorem in_core (neg : Bool) (hu : X.A.units + 64 < cLine) {pins : List (Addr × Obj)} {s : Shared} {σ : L2.St} {H : Hp} {x y : D} {vx vy : V} {v u : Value} {A : SD} {ys : List D} (I : Inv X pins σ H s) (rx : RelV vx v) (ry : RelV vy u) (ar : ARx X A H) (tx : TV X.K H vx x) (ty : TV X.K H vy y)
    (e : sv A y = some ys) (o1 : okE x = true) (o2 : ys.all (ok 15) = true) {Q : Value → Shared → Prop} (q : Q (.bool (neg ^^ decide (x ∈ ys))) s) : wpAny (model X.prog X.w) X.A (compareOp (if neg then .NotIn else .In) v u) Q X.xe s := by
  obtain ⟨as, r1⟩ := Dp.reads I _ _ _ (TV.dp 16 _ _ tx o1) rx
  have hd := py_depth 16 _ o1
  cases y with
  | tup ds =>
    obtain rfl : ds = ys := Option.some.inj e
    obtain ⟨bs, r2⟩ := Dp.reads I _ _ _ (TV.dp 16 _ (.tup ds) ty o2) ry
    cases neg
    · refine PySem.SeqAt.in_tuple_data (xs := pys ds) r2 r1 (pys_plain o2) (py_plain 16 _ o1) (by omega) ?_
      rw [any_eqvB o1 o2]; simpa using q
    · refine PySem.SeqAt.notIn_tuple_data (xs := pys ds) r2 r1 (pys_plain o2) (py_plain 16 _ o1) (by omega) ?_
      rw [any_eqvB o1 o2]; simpa using q
  | _ =>
    obtain ⟨a, vs, rfl, h1, t1⟩ := lw_at ar ty e
    have hs : SqL X.K H a vs := by
      rcases h1 with h1 | ⟨o, h1⟩
      · exact .inl (.inl h1)
      · exact .inl (.inr ⟨o, h1⟩)
    obtain ⟨bs, r2⟩ := Dp.reads I (.list (pys ys)) _ _ (.lst hs (t1.dp (n := 15) o2)) ry
    cases neg
    · refine PySem.SeqAt.in_list_data (xs := pys ys) r2 r1 (pys_plain o2) (py_plain 16 _ o1) (by omega) ?_
      rw [any_eqvB o1 o2]; simpa using q
    · refine PySem.SeqAt.notIn_list_data (xs := pys ys) r2 r1 (pys_plain o2) (py_plain 16 _ o1) (by omega) ?_
      rw [any_eqvB o1 o2]; simpa using q
theorem o_in (hu : X.A.units + 64 < cLine) : OpR X (compareOp .In) (lR X rIn') := by
  intro pins s σ H vx vy v u Q I rx ry h
  obtain ⟨x, y, A, Q', ar, tx, ty, ⟨ys, e, o1, o2, q⟩, k⟩ := h
  exact in_core false hu I rx ry ar tx ty e o1 o2 ⟨.bl _, H, I, by simp [RelV], k _ _ _ _ q (.refl _) ar (.bl _)⟩
theorem o_notIn (hu : X.A.units + 64 < cLine) : OpR X (compareOp .NotIn) (lR X rNotIn') := by
  intro pins s σ H vx vy v u Q I rx ry h
  obtain ⟨x, y, A, Q', ar, tx, ty, ⟨ys, e, o1, o2, q⟩, k⟩ := h
  exact in_core true hu I rx ry ar tx ty e o1 o2 ⟨.bl _, H, I, by simp [RelV], k _ _ _ _ q (.refl _) ar (.bl _)⟩
/-- a text within a text -/
def rInS : RD := fun x y A Q => ∃ i j, x = .str i ∧ y = .str j ∧ Q (.bl (!(Builtin.Str.occurrences j i 0 j.length 1).isEmpty)) A
theorem o_inS : OpR X (compareOp .In) (lR X rInS) := by
  intro pins s σ H vx vy v u Q I rx ry h
  obtain ⟨x, y, A, Q', ar, tx, ty, ⟨i, j, rfl, rfl, q⟩, k⟩ := h
  cases tx
  cases ty
  exact op_in_str pins s σ H _ _ v u Q I rx ry ⟨i, j, rfl, rfl, k _ _ _ _ q (.refl _) ar (.bl _)⟩
/-- is None, is not None; is True, is not True -/
def rIs' : RD := fun x y A Q => match y with
  | .non => Q (.bl (decide (x = .non))) A
  | .bl b => match x with
    | .bl a => Q (.bl (decide (a = b))) A
    | _ => False
  | _ => False
def rIsNot' : RD := fun x y A Q => match y with
  | .non => Q (.bl (!decide (x = .non))) A
  | .bl b => match x with
    | .bl a => Q (.bl (!decide (a = b))) A
    | _ => False
  | _ => False
theorem TV.non_iff {K : PySem.W.Frag} {H : Hp} {v : V} {d : D} (h : TV K H v d) : decide (v = .non) = decide (d = .non) := by
  cases h <;> simp
theorem o_is : OpR X (compareOp .Is) (lR X rIs') := by
  intro pins s σ H vx vy v u Q I rx ry h
  obtain ⟨x, y, A, Q', ar, tx, ty, h, k⟩ := h
  cases ty with
  | non =>
    refine op_isN pins s σ H _ _ v u Q I rx ry ⟨rfl, ?_⟩
    rw [tx.non_iff]
    exact k _ _ _ _ h (.refl _) ar (.bl _)
  | bl b =>
    cases tx with
    | bl a => exact op_isBl pins s σ H _ _ v u Q I rx ry ⟨a, b, rfl, rfl, k _ _ _ _ h (.refl _) ar (.bl _)⟩
    | _ => exact h.elim
  | _ => exact h.elim
theorem o_isNot : OpR X (compareOp .IsNot) (lR X rIsNot') := by
  intro pins s σ H vx vy v u Q I rx ry h
  obtain ⟨x, y, A, Q', ar, tx, ty, h, k⟩ := h
  cases ty with
  | non =>
    refine op_notN pins s σ H _ _ v u Q I rx ry ⟨rfl, ?_⟩
    rw [tx.non_iff]
    exact k _ _ _ _ h (.refl _) ar (.bl _)
  | bl b =>
    cases tx with
    | bl a => exact op_notBl pins s σ H _ _ v u Q I rx ry ⟨a, b, rfl, rfl, k _ _ _ _ h (.refl _) ar (.bl _)⟩
    | _ => exact h.elim
  | _ => exact h.elim
/-- -a -/
def eNeg (t : EW) : EW := fun env A Q => t env A fun d A1 => ∃ i, d = .int i ∧ Q (.int (-i)) A1
theorem xneg {a : Expr} {ta : EW} {pos : Pos} (ha : PE X a (lE X ta)) : PE X (.UnaryOp .USub a pos) (lE X (eNeg ta)) := PE.imp (pe_un un_neg ha) fun σ H Q h => by
  obtain ⟨env, A, Q', er, ar, h2, k⟩ := h
  refine ⟨env, A, _, er, ar, h2, fun d A1 v H1 q1 k1 ar1 tv1 => ?_⟩
  obtain ⟨i, rfl, q⟩ := q1
  cases tv1
  exact ⟨i, rfl, k _ _ _ _ q k1 ar1 (.int _)⟩
end
end TL

/-! TD: statements, targets, tests, loops. -/
namespace TL
open PySem PySem.Spec L2
section
variable {X : Cx} {pos : Pos}
/-! ### tests -/
def tAnd' (a b : TW) : TW := fun env A Q => a env A fun c A1 => if c = true then b env A1 Q else Q false A1
def tOr' (a b : TW) : TW := fun env A Q => a env A fun c A1 => if c = true then Q true A1 else b env A1 Q
def tNot' (a : TW) : TW := fun env A Q => a env A fun c A1 => Q (!c) A1
theorem lT.seq {a b : TW} {f : (Bool → SD → Prop) → (TW) → Bool → SD → Prop} : True := trivial
theorem xw1 {a : Expr} {ta : TW} (h : PT X a (lT X ta)) : PW X (.BoolOp .And [a] pos) (lT X ta) := pw_and1 h
theorem xo1 {a : Expr} {ta : TW} (h : PT X a (lT X ta)) : PW X (.BoolOp .Or [a] pos) (lT X ta) := pw_or1 h
theorem xw {a b : Expr} {rest : List Expr} {ta tb : TW} (ha : PT X a (lT X ta)) (hb : PW X (.BoolOp .And (b :: rest) pos) (lT X tb)) : PW X (.BoolOp .And (a :: b :: rest) pos) (lT X (tAnd' ta tb)) :=
  PW.imp (pw_and ha hb) fun σ H Q h => by
    obtain ⟨env, A, Q', er, ar, h2, k⟩ := h
    refine ⟨env, A, _, er, ar, h2, fun c A1 H1 q1 k1 ar1 => ?_⟩
    cases c with
    | true => exact iteT ⟨env, A1, Q', er.keep k1, ar1, by simpa using q1, fun b A' H' q k2 ar' => k b A' H' q (k1.trans k2) ar'⟩
    | false => exact iteF (k _ _ _ (by simpa using q1) k1 ar1)
theorem xo {a b : Expr} {rest : List Expr} {ta tb : TW} (ha : PT X a (lT X ta)) (hb : PW X (.BoolOp .Or (b :: rest) pos) (lT X tb)) : PW X (.BoolOp .Or (a :: b :: rest) pos) (lT X (tOr' ta tb)) :=
  PW.imp (pw_or ha hb) fun σ H Q h => by
    obtain ⟨env, A, Q', er, ar, h2, k⟩ := h
    refine ⟨env, A, _, er, ar, h2, fun c A1 H1 q1 k1 ar1 => ?_⟩
    cases c with
    | false => exact iteF ⟨env, A1, Q', er.keep k1, ar1, by simpa using q1, fun b A' H' q k2 ar' => k b A' H' q (k1.trans k2) ar'⟩
    | true => exact iteT (k _ _ _ (by simpa using q1) k1 ar1)
theorem xwp {e : Expr} {t : TW} (h : PW X e (lT X t)) : PT X e (lT X t) := h.pt
theorem xnot {a : Expr} {ta : TW} (ha : PT X a (lT X ta)) : PT X (.UnaryOp .Not a pos) (lT X (tNot' ta)) := PT.imp (pt_not ha) fun σ H Q h => by
  obtain ⟨env, A, Q', er, ar, h2, k⟩ := h
  exact ⟨env, A, _, er, ar, h2, fun c A1 H1 q1 k1 ar1 => k _ _ _ q1 k1 ar1⟩
/-- and, or, not as values -/
def eAnd (a b : EW) : EW := fun env A Q => a env A fun d A1 => ∃ c, d = .bl c ∧ if c = true then b env A1 Q else Q (.bl false) A1
def eOr (a b : EW) : EW := fun env A Q => a env A fun d A1 => ∃ c, d = .bl c ∧ if c = true then Q (.bl true) A1 else b env A1 Q
def eNot (a : EW) : EW := fun env A Q => a env A fun d A1 => ∃ c, d = .bl c ∧ Q (.bl (!c)) A1
theorem xv1 {op} {a : Expr} {t : EW} (h : PE X a (lE X t)) : PE X (.BoolOp op [a] pos) (lE X t) := pe_one h
theorem xvand {a b : Expr} {rest : List Expr} {ta tb : EW} (ha : PE X a (lE X ta)) (hb : PE X (.BoolOp .And (b :: rest) pos) (lE X tb)) : PE X (.BoolOp .And (a :: b :: rest) pos) (lE X (eAnd ta tb)) :=
  PE.imp (pe_and ha hb) fun σ H Q h => by
    obtain ⟨env, A, Q', er, ar, h2, k⟩ := h
    refine ⟨env, A, _, er, ar, h2, fun d A1 v H1 q1 k1 ar1 tv1 => ?_⟩
    obtain ⟨c, rfl, q1⟩ := q1
    cases tv1
    refine ⟨c, rfl, ?_⟩
    cases c with
    | true => exact iteT ⟨env, A1, Q', er.keep k1, ar1, by simpa using q1, fun b A' v H' q k2 ar' tv' => k b A' v H' q (k1.trans k2) ar' tv'⟩
    | false => exact iteF (k _ _ _ _ (by simpa using q1) k1 ar1 (.bl _))
theorem xvor {a b : Expr} {rest : List Expr} {ta tb : EW} (ha : PE X a (lE X ta)) (hb : PE X (.BoolOp .Or (b :: rest) pos) (lE X tb)) : PE X (.BoolOp .Or (a :: b :: rest) pos) (lE X (eOr ta tb)) :=
  PE.imp (pe_or ha hb) fun σ H Q h => by
    obtain ⟨env, A, Q', er, ar, h2, k⟩ := h
    refine ⟨env, A, _, er, ar, h2, fun d A1 v H1 q1 k1 ar1 tv1 => ?_⟩
    obtain ⟨c, rfl, q1⟩ := q1
    cases tv1
    refine ⟨c, rfl, ?_⟩
    cases c with
    | false => exact iteF ⟨env, A1, Q', er.keep k1, ar1, by simpa using q1, fun b A' v H' q k2 ar' tv' => k b A' v H' q (k1.trans k2) ar' tv'⟩
    | true => exact iteT (k _ _ _ _ (by simpa using q1) k1 ar1 (.bl _))
theorem xvnot {a : Expr} {ta : EW} (ha : PE X a (lE X ta)) : PE X (.UnaryOp .Not a pos) (lE X (eNot ta)) := PE.imp (pe_not ha) fun σ H Q h => by
  obtain ⟨env, A, Q', er, ar, h2, k⟩ := h
  refine ⟨env, A, _, er, ar, h2, fun d A1 v H1 q1 k1 ar1 tv1 => ?_⟩
  obtain ⟨c, rfl, q1⟩ := q1
  cases tv1
  exact ⟨c, rfl, k _ _ _ _ q1 k1 ar1 (.bl _)⟩
/-- a if t else b -/
def eIf (t : TW) (a b : EW) : EW := fun env A Q => t env A fun c A1 => if c = true then a env A1 Q else b env A1 Q
theorem xif {c a b : Expr} {t : TW} {ta tb : EW} (hc : PT X c (lT X t)) (ha : PE X a (lE X ta)) (hb : PE X b (lE X tb)) : PE X (.IfExp c a b pos) (lE X (eIf t ta tb)) :=
  PE.imp (pe_ifExp hc ha hb) fun σ H Q h => by
    obtain ⟨env, A, Q', er, ar, h2, k⟩ := h
    refine ⟨env, A, _, er, ar, h2, fun c A1 H1 q1 k1 ar1 => ?_⟩
    cases c with
    | true => exact iteT ⟨env, A1, Q', er.keep k1, ar1, by simpa using q1, fun b A' v H' q k2 ar' tv' => k b A' v H' q (k1.trans k2) ar' tv'⟩
    | false => exact iteF ⟨env, A1, Q', er.keep k1, ar1, by simpa using q1, fun b A' v H' q k2 ar' tv' => k b A' v H' q (k1.trans k2) ar' tv'⟩
/-- a < b < c of whole numbers -/
def eChain (rd rd' : RD) (ta tb tc : EW) : EW := fun env A Q => ta env A fun x A1 => tb env A1 fun y A2 => rd x y A2 fun z A3 => ∃ k, z = .bl k ∧ if k = true then tc env A3 fun w A4 => rd' y w A4 Q else Q (.bl false) A3
theorem xchain {op op' : CmpOp} {rd rd' : RD} {a b c : Expr} {ta tb tc : EW} (ho : OpR X (compareOp op) (lR X rd)) (ho' : OpR X (compareOp op') (lR X rd')) (ha : PE X a (lE X ta)) (hb : PE X b (lE X tb)) (hc : PE X c (lE X tc))
    (hm : lastMarks [op, op'] [b, c] = false := by with_unfolding_all rfl) : PE X (.Compare a [op, op'] [b, c] pos) (lE X (eChain rd rd' ta tb tc)) :=
  PE.imp (pe_chain ho ho' ha hb hc hm) fun σ H Q h => by
    obtain ⟨env, A, Q', er, ar, h2, k⟩ := h
    refine ⟨env, A, _, er, ar, h2, fun x A1 v1 H1 q1 k1 ar1 tv1 => ?_⟩
    refine ⟨env, A1, _, er.keep k1, ar1, q1, fun y A2 v2 H2 q2 k2 ar2 tv2 => ?_⟩
    refine ⟨x, y, A2, _, ar2, tv1.keep k2, tv2, q2, fun z A3 vz H3 q3 k3 ar3 tv3 => ?_⟩
    obtain ⟨kk, rfl, q3⟩ := q3
    cases tv3
    refine ⟨kk, rfl, ?_⟩
    cases kk with
    | false => exact iteF (k _ _ _ _ (by simpa using q3) ((k1.trans k2).trans k3) ar3 (.bl _))
    | true =>
      refine iteT ⟨env, A3, _, ((er.keep k1).keep k2).keep k3, ar3, by simpa using q3, fun w A4 v4 H4 q4 k4 ar4 tv4 => ?_⟩
      exact ⟨y, w, A4, Q', ar4, (tv2.keep k3).keep k4, tv4, q4, fun d A' v H' q k5 ar' tv' => k d A' v H' q ((((k1.trans k2).trans k3).trans k4).trans k5) ar' tv'⟩
theorem xtchain {op op' : CmpOp} {rd rd' : RD} {a b c : Expr} {ta tb tc : EW} (ho : OpR X (compareOp op) (lR X rd)) (ho' : OpR X (compareOp op') (lR X rd')) (ha : PE X a (lE X ta)) (hb : PE X b (lE X tb)) (hc : PE X c (lE X tc))
    (hm : lastMarks [op, op'] [b, c] = false := by with_unfolding_all rfl) : PT X (.Compare a [op, op'] [b, c] pos) (lT X (tVal (eChain rd rd' ta tb tc))) :=
  PT.imp (pt_chain ho ho' ha hb hc hm) fun σ H Q h => by
    obtain ⟨env, A, Q', er, ar, h2, k⟩ := lT.val h
    refine ⟨env, A, _, er, ar, h2, fun x A1 v1 H1 q1 k1 ar1 tv1 => ?_⟩
    refine ⟨env, A1, _, er.keep k1, ar1, q1, fun y A2 v2 H2 q2 k2 ar2 tv2 => ?_⟩
    refine ⟨x, y, A2, _, ar2, tv1.keep k2, tv2, q2, fun z A3 vz H3 q3 k3 ar3 tv3 => ?_⟩
    obtain ⟨kk, rfl, q3⟩ := q3
    cases tv3
    refine ⟨kk, rfl, ?_⟩
    cases kk with
    | false => exact iteF (k _ _ _ _ (by simpa using q3) ((k1.trans k2).trans k3) ar3 (.bl _))
    | true =>
      refine iteT ⟨env, A3, _, ((er.keep k1).keep k2).keep k3, ar3, by simpa using q3, fun w A4 v4 H4 q4 k4 ar4 tv4 => ?_⟩
      exact ⟨y, w, A4, Q', ar4, (tv2.keep k3).keep k4, tv4, q4, fun d A' v H' q k5 ar' tv' => k d A' v H' q ((((k1.trans k2).trans k3).trans k4).trans k5) ar' tv'⟩

/-! ### statements -/
def sNil : SW := fun D env A => D.nx env A
def sSeq (a b : SW) : SW := fun D env A => a { D with nx := b D } env A
theorem xs0 : PSs X [] (lS X sNil) := PSs.imp pss_nil fun D σ H h => by
  obtain ⟨env, A, D', er, ar, h2, k1, k2, k3, k4⟩ := h
  exact k1 env A σ H h2 (.refl H) er ar
theorem xs1 {st : Stmt} {a : SW} (h : PS X st (lS X a)) : PSs X [st] (lS X a) := pss_one h
theorem xsc {st : Stmt} {rest : List Stmt} {a b : SW} (h1 : PS X st (lS X a)) (h2 : PSs X rest (lS X b)) : PSs X (st :: rest) (lS X (sSeq a b)) := PSs.imp (pss_cons h1 h2) fun D σ H h => by
  obtain ⟨env, A, D', er, ar, h2, k1, k2, k3, k4⟩ := h
  refine ⟨env, A, { D' with nx := b D' }, er, ar, h2, fun env' A' σ' H' q kk er' ar' => ?_, k2, k3, k4⟩
  exact ⟨env', A', D', er', ar', q, fun e2 A2 σ2 H2 q2 kk2 => k1 e2 A2 σ2 H2 q2 (kk.trans kk2), fun e2 A2 v2 H2 q2 kk2 => k2 e2 A2 v2 H2 q2 (kk.trans kk2), fun e2 A2 σ2 H2 q2 kk2 => k3 e2 A2 σ2 H2 q2 (kk.trans kk2), fun e2 A2 σ2 H2 q2 kk2 => k4 e2 A2 σ2 H2 q2 (kk.trans kk2)⟩
def sBrk : SW := fun D env A => D.bk env A
def sCont : SW := fun D env A => D.ct env A
theorem xbrk : PS X (.Break pos) (lS X sBrk) := PS.imp ps_break fun D σ H h => by
  obtain ⟨env, A, D', er, ar, h2, k1, k2, k3, k4⟩ := h
  exact k3 env A σ H h2 (.refl H) er ar
theorem xcont : PS X (.Continue pos) (lS X sCont) := PS.imp ps_continue fun D σ H h => by
  obtain ⟨env, A, D', er, ar, h2, k1, k2, k3, k4⟩ := h
  exact k4 env A σ H h2 (.refl H) er ar
def sExpr (e : EW) : SW := fun D env A => e env A fun _ A1 => D.nx env A1
theorem xexpr {e : Expr} {t : EW} (he : PE X e (lE X t)) (hs : swapsWith e none pos.line X.env = pure false := by rfl) : PS X (.Expr e pos) (lS X (sExpr t)) := PS.imp (ps_expr he hs) fun D σ H h => by
  obtain ⟨env, A, D', er, ar, h2, k1, k2, k3, k4⟩ := h
  exact ⟨env, A, _, er, ar, h2, fun d A1 v H1 q kk ar1 tv => k1 env A1 σ H1 q kk (er.keep kk) ar1⟩
def sRet (e : EW) : SW := fun D env A => e env A D.rt
theorem xret {e : Expr} {t : EW} (he : PE X e (lE X t)) : PS X (.Return (some e) pos) (lS X (sRet t)) := PS.imp (ps_ret he) fun D σ H h => by
  obtain ⟨env, A, D', er, ar, h2, k1, k2, k3, k4⟩ := h
  exact ⟨env, A, _, er, ar, h2, fun d A1 v H1 q kk ar1 tv => k2 d A1 v H1 q kk ar1 tv⟩
def sRetN : SW := fun D env A => D.rt .non A
theorem xretN : PS X (.Return none pos) (lS X sRetN) := PS.imp ps_retN fun D σ H h => by
  obtain ⟨env, A, D', er, ar, h2, k1, k2, k3, k4⟩ := h
  exact k2 _ A _ H h2 (.refl H) ar .non
def sIf (t : TW) (a b : SW) : SW := fun D env A => t env A fun c A1 => if c = true then a D env A1 else b D env A1
theorem xsif {c : Expr} {a b : List Stmt} {t : TW} {wa wb : SW} (hc : PT X c (lT X t)) (ha : PSs X a (lS X wa)) (hb : PSs X b (lS X wb)) : PS X (.If c a b pos) (lS X (sIf t wa wb)) :=
  PS.imp (ps_if hc ha hb) fun D σ H h => by
    obtain ⟨env, A, D', er, ar, h2, k1, k2, k3, k4⟩ := h
    refine ⟨env, A, _, er, ar, h2, fun c A1 H1 q kk ar1 => ?_⟩
    have go : ∀ w : SW, w D' env A1 → lS X w D σ H1 := fun w q => ⟨env, A1, D', er.keep kk, ar1, q, fun e2 A2 σ2 H2 q2 kk2 => k1 e2 A2 σ2 H2 q2 (kk.trans kk2), fun e2 A2 v2 H2 q2 kk2 => k2 e2 A2 v2 H2 q2 (kk.trans kk2), fun e2 A2 σ2 H2 q2 kk2 => k3 e2 A2 σ2 H2 q2 (kk.trans kk2), fun e2 A2 σ2 H2 q2 kk2 => k4 e2 A2 σ2 H2 q2 (kk.trans kk2)⟩
    cases c with
    | true => exact iteT (go _ (by simpa using q))
    | false => exact iteF (go _ (by simpa using q))
/-- never reached -/
def sNever : SW := fun _ _ _ => False
theorem xnever {st : Stmt} : PS X st (lS X sNever) := PS.imp ps_never fun D σ H h => by
  obtain ⟨env, A, D', er, ar, h2, k1, k2, k3, k4⟩ := h
  exact h2

/-! ### targets -/
def gVar (i : Nat) : GW := fun d env A Q => Q (env.set i (some d)) A
theorem Off.set {i : Nat} {v : Option V} {σ : L2.St} : Off [i] σ (σ.set i v) := ⟨List.length_set, fun j hj => List.getElem?_set_ne (fun e => hj (by simp [e]))⟩
theorem xg {i : Nat} {x : Str} (hN : X.N.Nodup) (hi : X.N[i]? = some x) (hx : Loc X.env.scope x) (hf : X.fn x = true ∨ X.env.scope.names.lookup x = some .local := by first | exact .inl rfl | exact .inr rfl | assumption) : PG X (.Name x pos) (lG X [i] (gVar i)) :=
  PG.imp (pg_name hN hi hx hf) fun v σ H Q h => by
    obtain ⟨d, env, A, Q', tv, er, ar, q, k⟩ := h
    exact k _ _ _ _ q (.refl H) Off.set (er.set tv) ar
abbrev GsW := List D → ED → SD → (ED → SD → Prop) → Prop
def lGs0 (P : Program) (w : World) (K : PySem.W.Frag) (ss : List Nat) (g : GsW) : TGs := fun vs σ H Q => ∃ ds env A Q', TVs K H vs ds ∧ ER K H σ env ∧ AR P w K A H ∧ g ds env A Q' ∧ ∀ env' A' σ' H', Q' env' A' → KeepT H H' → Off ss σ σ' → ER K H' σ' env' → AR P w K A' H' → Q σ' H'
abbrev lGs (X : Cx) : List Nat → GsW → TGs := lGs0 X.prog X.w X.K
def gsNil : GsW := fun ds env A Q => ds = [] ∧ Q env A
def gsCons (g : GW) (r : GsW) : GsW := fun ds env A Q => ∃ d ds', ds = d :: ds' ∧ g d env A fun env' A' => r ds' env' A' Q
theorem PGs.imp {e : List Expr} {t t' : TGs} (h : PGs X e t) (hi : ∀ v σ H Q, t' v σ H Q → t v σ H Q) : PGs X e t' := ⟨fun pins s σ H v u Q I r q => h.run pins s σ H v u Q I r (hi v σ H Q q)⟩
theorem xg0 : PGs X [] (lGs X [] gsNil) := PGs.imp pgs_nil fun v σ H Q h => by
  obtain ⟨ds, env, A, Q', tv, er, ar, ⟨rfl, q⟩, k⟩ := h
  cases tv
  exact ⟨rfl, k _ _ _ _ q (.refl H) (.refl _ _) er ar⟩
theorem xgs {e : Expr} {es : List Expr} {g : GW} {r : GsW} {ss ss' : List Nat} (h1 : PG X e (lG X ss g)) (h2 : PGs X es (lGs X ss' r)) (hs : (assignEach (e :: es) X.env).map (·.2) = assign e X.env :: (assignEach es X.env).map (·.2) := by rfl) : PGs X (e :: es) (lGs X (ss ++ ss') (gsCons g r)) :=
  PGs.imp (pgs_cons h1 h2 hs) fun vs σ H Q h => by
    obtain ⟨ds, env, A, Q', tv, er, ar, ⟨d, ds', rfl, q⟩, k⟩ := h
    cases tv with
    | cons t ts =>
      refine ⟨_, _, rfl, d, env, A, _, t, er, ar, q, fun env' A' σ' H' q' kk of er' ar' => ?_⟩
      exact ⟨ds', env', A', Q', ts.keep kk, er', ar', q', fun e2 A2 σ2 H2 q2 kk2 of2 => k e2 A2 σ2 H2 q2 (kk.trans kk2) (of.trans of2)⟩
/-- (a, b, ..) = a tuple -/
def gTup' (n : Nat) (r : GsW) : GW := fun d env A Q => ∃ ds, d = .tup ds ∧ ds.length = n ∧ r ds env A Q
theorem xgt {es : List Expr} {k : Nat} {r : GsW} {n : Nat} {ss : List Nat} (hc : X.calm = true) (h : PGs X es (lGs X ss r)) (hn : (assignEach es X.env).length = n := by rfl) (hst : (assignEach es X.env).findIdx? (·.1) = none := by rfl) : PG X (.Tuple es k pos) (lG X ss (gTup' n r)) :=
  PG.imp (pg_tup hc h hn hst) fun v σ H Q h => by
    obtain ⟨d, env, A, Q', tv, er, ar, ⟨ds, rfl, hl, q⟩, k⟩ := h
    cases tv with
    | tup h1 t => exact ⟨_, _, rfl, h1, by rw [t.length]; exact hl, ds, env, A, Q', t, er, ar, q, k⟩
/-- target = value -/
def sAsg (e : EW) (g : GW) : SW := fun D env A => e env A fun d A1 => g d env A1 D.nx
theorem xasg {tg e : Expr} {t : EW} {g : GW} {ss : List Nat} (he : PE X e (lE X t)) (hg : PG X tg (lG X ss g)) (hs : swapsWithSole [tg] e pos.line X.env = pure false := by rfl) (hw : swappedStores [tg] e X.env = pure none := by rfl)
    (h1 : (assignEach [tg] X.env).map (·.2) = [assign tg X.env] := by rfl) : PS X (.Assign [tg] e pos) (lS X (sAsg t g)) :=
  PS.imp (ps_asg he hg hs hw h1) fun D σ H h => by
    obtain ⟨env, A, D', er, ar, h2, k1, k2, k3, k4⟩ := h
    refine ⟨env, A, _, er, ar, h2, fun d A1 v H1 q kk ar1 tv => ?_⟩
    exact ⟨d, env, A1, _, tv, er.keep kk, ar1, q, fun e2 A2 σ2 H2 q2 kk2 _ => k1 e2 A2 σ2 H2 q2 (kk.trans kk2)⟩
def sSet (i : Nat) (e : EW) : SW := fun D env A => e env A fun d A1 => D.nx (env.set i (some d)) A1
theorem xset {i : Nat} {x : Str} {e : Expr} {t : EW} {pos' : Pos} (hN : X.N.Nodup) (hi : X.N[i]? = some x) (hx : Loc X.env.scope x) (he : PE X e (lE X t)) (hs : swapsWith e (some (.Name x pos')) pos.line X.env = pure false := by rfl)
    (hf : X.fn x = true ∨ X.env.scope.names.lookup x = some .local := by first | exact .inl rfl | exact .inr rfl | assumption) : PS X (.Assign [.Name x pos'] e pos) (lS X (sSet i t)) :=
  PS.imp (ps_set hN hi hx he hs hf) fun D σ H h => by
    obtain ⟨env, A, D', er, ar, h2, k1, k2, k3, k4⟩ := h
    exact ⟨env, A, _, er, ar, h2, fun d A1 v H1 q kk ar1 tv => k1 _ A1 _ H1 q kk ((er.keep kk).set tv) ar1⟩
/-- a, b = x, y -/
def sPar (i j : Nat) (t : AW) : SW := fun D env A => t env A fun ds A1 => ∃ x y, ds = [x, y] ∧ D.nx ((env.set i (some x)).set j (some y)) A1
theorem xpar {i j : Nat} {x y : Str} {a b : Expr} {ta : AW} {px py pt : Pos} {kt k2 pt2} (hc : X.calm = true) (hN : X.N.Nodup) (hi : X.N[i]? = some x) (hj : X.N[j]? = some y) (hij : i ≠ j) (hx : X.env.scope.names.lookup x = some .local) (hy : X.env.scope.names.lookup y = some .local) (ha : PA X [a, b] (lA X ta))
    (hw : swappedStores [.Tuple [.Name x px, .Name y py] kt pt] (.Tuple [a, b] k2 pt2) X.env = pure (some [x, y])) (hs : swapsWithSole [.Tuple [.Name x px, .Name y py] kt pt] (.Tuple [a, b] k2 pt2) pos.line X.env = pure false := by rfl) :
    PS X (.Assign [.Tuple [.Name x px, .Name y py] kt pt] (.Tuple [a, b] k2 pt2) pos) (lS X (sPar i j ta)) :=
  PS.imp (ps_par hc hN hi hj hij hx hy ha hw hs) fun D σ H h => by
    obtain ⟨env, A, D', er, ar, h2, k1, k2, k3, k4⟩ := h
    refine ⟨env, A, _, er, ar, h2, fun ds A1 vs H1 q kk ar1 tv => ?_⟩
    obtain ⟨x, y, rfl, q⟩ := q
    cases tv with
    | cons t1 ts => cases ts with
      | cons t2 ts2 =>
        cases ts2
        exact ⟨_, _, rfl, k1 _ A1 _ H1 q kk (((er.keep kk).set t1).set t2) ar1⟩
def sPar3 (i j l : Nat) (t : AW) : SW := fun D env A => t env A fun ds A1 => ∃ x y z, ds = [x, y, z] ∧ D.nx (((env.set i (some x)).set j (some y)).set l (some z)) A1
theorem xpar3 {i j l : Nat} {x y z : Str} {a b c : Expr} {ta : AW} {px py pz pt : Pos} {kt k2 pt2} (hc : X.calm = true) (hN : X.N.Nodup) (hi : X.N[i]? = some x) (hj : X.N[j]? = some y) (hl : X.N[l]? = some z) (hij : i ≠ j) (hil : i ≠ l) (hjl : j ≠ l) (hx : X.env.scope.names.lookup x = some .local) (hy : X.env.scope.names.lookup y = some .local) (hz : X.env.scope.names.lookup z = some .local) (ha : PA X [a, b, c] (lA X ta))
    (hw : swappedStores [.Tuple [.Name x px, .Name y py, .Name z pz] kt pt] (.Tuple [a, b, c] k2 pt2) X.env = pure (some [x, y, z])) (hs : swapsWithSole [.Tuple [.Name x px, .Name y py, .Name z pz] kt pt] (.Tuple [a, b, c] k2 pt2) pos.line X.env = pure false := by rfl) :
    PS X (.Assign [.Tuple [.Name x px, .Name y py, .Name z pz] kt pt] (.Tuple [a, b, c] k2 pt2) pos) (lS X (sPar3 i j l ta)) :=
  PS.imp (ps_par3 hc hN hi hj hl hij hil hjl hx hy hz ha hw hs) fun D σ H h => by
    obtain ⟨env, A, D', er, ar, h2, k1, k2, k3, k4⟩ := h
    refine ⟨env, A, _, er, ar, h2, fun ds A1 vs H1 q kk ar1 tv => ?_⟩
    obtain ⟨x, y, z, rfl, q⟩ := q
    cases tv with
    | cons t1 ts => cases ts with
      | cons t2 ts2 => cases ts2 with
        | cons t3 ts3 =>
          cases ts3
          exact ⟨_, _, _, rfl, k1 _ A1 _ H1 q kk ((((er.keep kk).set t1).set t2).set t3) ar1⟩
/-- name op= e, whole numbers -/
def sAug (i : Nat) (g : Int → Int → Int) (e : EW) : SW := fun D env A => ∃ n, env[i]? = some (some (.int n)) ∧ e env A fun d A1 => ∃ m, d = .int m ∧ D.nx (env.set i (some (.int (g n m)))) A1
theorem xaug {op : Operator} {g : Int → Int → Int} {i : Nat} {x : Str} {e : Expr} {t : EW} {pos' : Pos} (ho : PIp X op (ipI g)) (hN : X.N.Nodup) (hi : X.N[i]? = some x) (hx : Loc X.env.scope x) (he : PE X e (lE X t))
    (hf : X.fn x = true ∨ X.env.scope.names.lookup x = some .local := by first | exact .inl rfl | exact .inr rfl | assumption) : PS X (.AugAssign (.Name x pos') op e pos) (lS X (sAug i g t)) :=
  PS.imp (ps_aug hN hi hx he ho hf) fun D σ H h => by
    obtain ⟨env, A, D', er, ar, ⟨n, hn, h2⟩, k1, k2, k3, k4⟩ := h
    obtain ⟨v, e1, e2⟩ := er.2 i _ hn
    cases e2
    refine ⟨_, e1, env, A, _, er, ar, h2, fun d A1 v H1 q kk ar1 tv => ?_⟩
    obtain ⟨m, rfl, q⟩ := q
    cases tv
    exact ⟨n, m, rfl, rfl, k1 _ A1 _ H1 q kk ((er.keep kk).set (.int _)) ar1⟩

/-! ### loops -/
/-- what is walked: the items, and what must stand all the while -/
abbrev IW := ED → SD → (List D → (SD → Prop) → SD → Prop) → Prop
structure Yields0 (P : Program) (w : World) (K : PySem.W.Frag) (J : It) (ds : List D) (G : SD → Prop) (H0 : Hp) : Prop where
  len : ds.length ≤ sizeLine
  more : ∀ (i : Nat) (d : D) (H : Hp) (A : SD), KeepT H0 H → AR P w K A H → G A → ds[i]? = some d → J.go i H ∧ ∀ x H', J.yld i H x H' → KeepT H H' ∧ AR P w K A H' ∧ TV K H' x d
  stop : ∀ (H : Hp) (A : SD), KeepT H0 H → AR P w K A H → G A → J.stop ds.length H
abbrev Yields (X : Cx) := Yields0 X.prog X.w X.K
def lI0 (P : Program) (wo : World) (K : PySem.W.Frag) (w : IW) : TI := fun σ H R => ∃ env A Q', ER K H σ env ∧ AR P wo K A H ∧ w env A Q' ∧ ∀ ds G A' H' J, Q' ds G A' → KeepT H H' → AR P wo K A' H' → Yields0 P wo K J ds G H' → R J H'
abbrev lI (X : Cx) : IW → TI := lI0 X.prog X.w X.K
theorem PI.imp {tg iter : Expr} {t t' : TI} (h : PI X tg iter t) (hi : ∀ σ H R, t' σ H R → t σ H R) : PI X tg iter t' := ⟨fun pins s σ H R I q => h.run pins s σ H R I (hi σ H R q)⟩
/-- with facts that every state bears -/
theorem PI.fact {tg iter : Expr} {t : TI} {F : Hp → Prop} (hF : ∀ (pins : List (Addr × Obj)) (s : Shared) (σ : L2.St) (H : Hp), Inv X pins σ H s → F H) (h : PI X tg iter t) : PI X tg iter (fun σ H R => t σ H fun J H' => F H' → R J H') :=
  ⟨fun pins s σ H R I q => thn (h.run pins s σ H _ I q) fun v s1 h1 => thn h1 fun itv s2 ⟨it, fp, tn, J, H', e, I2, T, t0, ff, r⟩ => ⟨it, fp, tn, J, H', e, I2, T, t0, ff, r (hF _ _ _ _ I2)⟩⟩
/-- lists and tuples are not too long -/
def Fits (K : PySem.W.Frag) (H : Hp) : Prop := (∀ a xs, SqL K H a xs → xs.length ≤ sizeLine) ∧ ∀ a xs, SqT K H a xs → xs.length ≤ sizeLine
theorem fits {pins : List (Addr × Obj)} {s : Shared} {σ : L2.St} {H : Hp} (I : Inv X pins σ H s) : Fits X.K H := ⟨fun a xs h => (I.list h).choose_spec.2.2, fun a xs h => (I.tuple h).choose_spec.2.2⟩
def forGo (G : SD → Prop) (g : GW) (body : SW) : List D → EndD → ED → SD → Prop
  | [], D, env, A => G A ∧ D.nx env A
  | d :: ds, D, env, A => G A ∧ g d env A fun env1 A1 => body { nx := forGo G g body ds D, rt := D.rt, bk := D.nx, ct := forGo G g body ds D } env1 A1
def sFor (w : IW) (g : GW) (body : SW) : SW := fun D env A => w env A fun ds G A1 => ds.length ≤ sizeLine → forGo G g body ds D env A1
theorem drop_at {α : Type} {l : List α} {i : Nat} {x : α} (h : l[i]? = some x) : l.drop i = x :: l.drop (i + 1) := by
  obtain ⟨h1, h2⟩ := List.getElem?_eq_some_iff.mp h
  rw [List.drop_eq_getElem_cons h1, h2]
theorem xfor {tg iter : Expr} {body : List Stmt} {w : IW} {g : GW} {wb : SW} {ss : List Nat} (hp : PassesOwn (model X.prog X.w) X.A X.env X.xe) (hc : X.calm = true) (hi : PI X tg iter (lI X w)) (hg : PG X tg (lG X ss g)) (hb : PSs X body (lS X wb)) (hs : ∀ x, foldedSetIterable iter X.env x = pure x := by intro _; rfl) :
    PS X (.For tg iter body [] pos) (lS X (sFor w g wb)) := PS.imp (ps_for hp hc hi hg hb hs) fun D σ H h => by
  obtain ⟨env, A, D', er, ar, h2, k1, k2, k3, k4⟩ := h
  refine ⟨env, A, _, er, ar, h2, fun ds G A1 H1 J q kk ar1 Y => ?_⟩
  have q := q Y.len
  refine ⟨fun i m σ' H' => i + m = ds.length ∧ KeepT H1 H' ∧ ∃ env' A', ER X.K H' σ' env' ∧ ARx X A' H' ∧ forGo G g wb (ds.drop i) D' env' A', ⟨ds.length, by omega, .refl _, env, A1, er.keep kk, ar1, q⟩, ?_⟩
  rintro i m σ' H' ⟨hm, kk', env', A', er', ar', q'⟩
  cases e : ds[i]? with
  | none =>
    have hl : ds.length ≤ i := List.getElem?_eq_none_iff.mp e
    have hi : i = ds.length := by omega
    subst hi
    rw [List.drop_length] at q'
    exact .inl ⟨Y.stop H' A' kk' ar' q'.1, k1 env' A' σ' H' q'.2 (kk.trans kk') er' ar'⟩
  | some d =>
    have hl : i < ds.length := (List.getElem?_eq_some_iff.mp e).1
    rw [drop_at e] at q'
    obtain ⟨y1, y2⟩ := Y.more i d H' A' kk' ar' q'.1 e
    refine .inr ⟨y1, fun σ2 H2 => KeepT H1 H2 ∧ ∃ env2 A2, ER X.K H2 σ2 env2 ∧ ARx X A2 H2 ∧ forGo G g wb (ds.drop (i + 1)) D' env2 A2, fun σ2 H2 h => ⟨m - 1, by omega, by omega, h.1, h.2⟩, fun x H2 hy => ?_⟩
    obtain ⟨kk2, ar2, tv2⟩ := y2 x H2 hy
    refine ⟨d, env', A', _, tv2, er'.keep kk2, ar2, q'.2, fun env3 A3 σ3 H3 q3 kk3 _ er3 ar3 => ?_⟩
    have kA : KeepT H H3 := ((kk.trans kk').trans kk2).trans kk3
    have kB : KeepT H1 H3 := (kk'.trans kk2).trans kk3
    refine ⟨env3, A3, _, er3, ar3, q3, fun e4 A4 σ4 H4 q4 k5 er4 ar4 => ⟨kB.trans k5, e4, A4, er4, ar4, q4⟩, fun d4 A4 v4 H4 q4 k5 ar4 tv4 => k2 d4 A4 v4 H4 q4 (kA.trans k5) ar4 tv4, fun e4 A4 σ4 H4 q4 k5 er4 ar4 => k1 e4 A4 σ4 H4 q4 (kA.trans k5) er4 ar4,
      fun e4 A4 σ4 H4 q4 k5 er4 ar4 => ⟨kB.trans k5, e4, A4, er4, ar4, q4⟩⟩
/-- while, some number of turns at most -/
def whileGo (c : TW) (body : SW) : Nat → EndD → ED → SD → Prop
  | 0, _, _, _ => False
  | n + 1, D, env, A => whileGo c body n D env A ∨ c env A fun b A1 => if b = true then body { nx := whileGo c body n D, rt := D.rt, bk := D.nx, ct := whileGo c body n D } env A1 else D.nx env A1
theorem whileGo_peel {c : TW} {body : SW} {D : EndD} : ∀ {n : Nat} {env : ED} {A : SD}, whileGo c body n D env A → ∃ k, k < n ∧ c env A fun b A1 => if b = true then body { nx := whileGo c body k D, rt := D.rt, bk := D.nx, ct := whileGo c body k D } env A1 else D.nx env A1
  | 0, _, _, h => h.elim
  | n + 1, env, A, .inl h => by
    obtain ⟨k, h1, h2⟩ := whileGo_peel h
    exact ⟨k, by omega, h2⟩
  | n + 1, env, A, .inr h => ⟨n, by omega, h⟩
theorem whileGo_up {c : TW} {body : SW} {D : EndD} {n m : Nat} {env : ED} {A : SD} (hm : n ≤ m) (h : whileGo c body n D env A) : whileGo c body m D env A := by
  induction m with
  | zero =>
    have : n = 0 := by omega
    subst this
    exact h
  | succ m ih =>
    by_cases e : n = m + 1
    · subst e; exact h
    · exact .inl (ih (by omega))
def sWhile (c : TW) (body : SW) : SW := fun D env A => ∃ n, whileGo c body n D env A
theorem xwhile {c : Expr} {body : List Stmt} {t : TW} {wb : SW} (hp : PassesOwn (model X.prog X.w) X.A X.env X.xe) (hc : PT X c (lT X t)) (hb : PSs X body (lS X wb)) : PS X (.While c body [] pos) (lS X (sWhile t wb)) := PS.imp (ps_while hp hc hb) fun D σ H h => by
  obtain ⟨env, A, D', er, ar, ⟨n, h2⟩, k1, k2, k3, k4⟩ := h
  refine ⟨fun m σ' H' => KeepT H H' ∧ ∃ env' A', ER X.K H' σ' env' ∧ ARx X A' H' ∧ whileGo t wb m D' env' A', ⟨n, .refl _, env, A, er, ar, h2⟩, ?_⟩
  rintro m σ' H' ⟨kk, env', A', er', ar', q⟩
  obtain ⟨m', hm', q⟩ := whileGo_peel q
  · refine ⟨env', A', _, er', ar', q, fun b A1 H1 q1 kk1 ar1 => ?_⟩
    cases b with
    | false => exact iteF (k1 env' A1 σ' H1 (by simpa using q1) (kk.trans kk1) (er'.keep kk1) ar1)
    | true =>
      refine iteT ⟨fun σ2 H2 => KeepT H H2 ∧ ∃ env2 A2, ER X.K H2 σ2 env2 ∧ ARx X A2 H2 ∧ whileGo t wb m' D' env2 A2, fun σ2 H2 h => ⟨m', by omega, h⟩, ?_⟩
      have kA := kk.trans kk1
      exact ⟨env', A1, { nx := whileGo t wb m' D', rt := D'.rt, bk := D'.nx, ct := whileGo t wb m' D' }, er'.keep kk1, ar1, by simpa using q1, fun e4 A4 σ4 H4 q4 k5 er4 ar4 => ⟨kA.trans k5, e4, A4, er4, ar4, q4⟩, fun d4 A4 v4 H4 q4 k5 ar4 tv4 => k2 d4 A4 v4 H4 q4 (kA.trans k5) ar4 tv4, fun e4 A4 σ4 H4 q4 k5 er4 ar4 => k1 e4 A4 σ4 H4 q4 (kA.trans k5) er4 ar4,
        fun e4 A4 σ4 H4 q4 k5 er4 ar4 => ⟨kA.trans k5, e4, A4, er4, ar4, q4⟩⟩
end
end TL

/-! TE: what is walked. -/
namespace TL
open PySem PySem.Spec L2
section
variable {X : Cx} {A : SD} {H : Hp}
/-- the items of a list or a tuple -/
def qv (A : SD) : D → Option (List D)
  | .tup ds => some ds
  | d => lv A d
theorem qv_at {d : D} {v : V} {ds : List D} (ar : ARx X A H) (tv : TV X.K H v d) (h : qv A d = some ds) : ∃ a vs, v = .ref a ∧ (SqL X.K H a vs ∨ SqT X.K H a vs) ∧ TVs X.K H vs ds := by
  cases d with
  | tup es =>
    obtain rfl : es = ds := Option.some.inj h
    cases tv with
    | tup h1 t => exact ⟨_, _, rfl, .inr h1, t⟩
  | _ =>
    obtain ⟨a, vs, h1, h2, h3⟩ := lv_sq ar tv h
    exact ⟨a, vs, h1, .inl h2, h3⟩
end
/-! ### a list or a tuple -/
def iSeq (e : EW) : IW := fun env A Q => e env A fun d A1 => ∃ ds, qv A1 d = some ds ∧ Q ds (fun A' => qv A' d = some ds) A1
section
variable {X : Cx} {tg : Expr}
theorem yields_list {A1 : SD} {H1 : Hp} {a : Addr} {d : D} {ds : List D} {vs : List V} (ar1 : ARx X A1 H1) (F : Fits X.K H1) (tv : TV X.K H1 (.ref a) d) (e : qv A1 d = some ds) (hq : SqL X.K H1 a vs) (t : TVs X.K H1 vs ds) (nt : ∀ es, d ≠ .tup es) : Yields X (Itl X.K a) ds (fun A' => qv A' d = some ds) H1 := by
  have get : ∀ H A, KeepT H1 H → ARx X A H → qv A d = some ds → ∃ ws, SqL X.K H a ws ∧ TVs X.K H ws ds := fun H A kk ar g => by
    have g' : lv A d = some ds := by
      cases d with
      | tup es => exact absurd rfl (nt es)
      | _ => exact g
    obtain ⟨a', ws, e1, e2, e3⟩ := lv_sq ar (tv.keep kk) g'
    cases e1
    exact ⟨ws, e2, e3⟩
  refine ⟨by rw [← t.length]; exact F.1 a vs hq, fun i x H A kk ar g hx => ?_, fun H A kk ar g => ?_⟩
  · obtain ⟨ws, h1, h2⟩ := get H A kk ar g
    obtain ⟨v, hv, tvv⟩ := h2.get hx
    refine ⟨⟨ws, v, h1, hv⟩, fun y H' hy => ?_⟩
    obtain ⟨rfl, hy⟩ := hy
    have := hy ws h1
    rw [hv] at this; cases this
    exact ⟨.refl _, ar, tvv⟩
  · obtain ⟨ws, h1, h2⟩ := get H A kk ar g
    exact ⟨ws, h1, by rw [h2.length]; exact Nat.le_refl _⟩
theorem yields_tup {H1 : Hp} {a : Addr} {ds : List D} {vs : List V} {G : SD → Prop} (F : Fits X.K H1) (hq : SqT X.K H1 a vs) (t : TVs X.K H1 vs ds) : Yields X (Itt X.K a) ds G H1 := by
  refine ⟨by rw [← t.length]; exact F.2 a vs hq, fun i x H A kk ar g hx => ?_, fun H A kk ar g => ?_⟩
  · obtain ⟨v, hv, tvv⟩ := (t.keep kk).get hx
    refine ⟨⟨vs, v, SqT.keep kk hq, hv⟩, fun y H' hy => ?_⟩
    obtain ⟨rfl, hy⟩ := hy
    have := hy vs (SqT.keep kk hq)
    rw [hv] at this; cases this
    exact ⟨.refl _, ar, tvv⟩
  · exact ⟨vs, SqT.keep kk hq, by rw [t.length]; exact Nat.le_refl _⟩
/-- iter(v) of a list or a tuple -/
theorem iter_seq {pins : List (Addr × Obj)} {σ : L2.St} {H : Hp} {s : Shared} {E : Value → Shared → Prop} {R : It → Hp → Prop} {v : V} {u : Value} {d : D} {ds : List D} {A : SD} (I : Inv X pins σ H s) (r : RelV v u) (ar : ARx X A H) (tv : TV X.K H v d) (e : qv A d = some ds)
    (q : ∀ J, Yields X J ds (fun A' => qv A' d = some ds) H → R J H) : wpAny (model X.prog X.w) X.A (pyIter u) (PIE X pins σ tg R) E s := by
  have F := fits I
  by_cases nt : ∃ es, d = .tup es
  · obtain ⟨es, rfl⟩ := nt
    obtain rfl : es = ds := Option.some.inj e
    cases tv with
    | tup hq tvs =>
      cases r
      obtain ⟨its, rv, p, hz⟩ := I.tuple hq
      refine wpAny_pyIter_tuple (show s.heap.IsTuple _ its.toArray from p) ?_
      refine ⟨s.heap.objs.size, [s.heap.objs.size], _, _, H, rfl, I.kept (t' := s.toks) fun b o e => Heap.get?_push_of_some _ e, turn_tuple _ _, ⟨_, Heap.get?_push_size _ rfl, rfl, rfl⟩, fun b hb => ?_, ?_⟩
      · have e : b = s.heap.objs.size := by simpa using hb
        subst e
        exact I.fpOk (Nat.le_refl _) (I.hok.fresh (Nat.le_refl _))
      · exact q _ (yields_tup F hq tvs)
  · have nt' : ∀ es, d ≠ .tup es := fun es h => nt ⟨es, h⟩
    have e' : lv A d = some ds := by
      cases d with
      | tup es => exact absurd rfl (nt' es)
      | _ => exact e
    obtain ⟨a, vs, rfl, hq, tvs⟩ := lv_sq ar tv e'
    cases r
    obtain ⟨its, rv, p, hz⟩ := I.list hq
    refine wpAny_pyIter_list p.isList ?_
    refine ⟨s.heap.objs.size, [s.heap.objs.size], _, _, H, rfl, I.kept (t' := s.toks) fun b o e => Heap.get?_push_of_some _ e, turn_list _ _, ⟨_, Heap.get?_push_size _ rfl, rfl, rfl⟩, fun b hb => ?_, ?_⟩
    · have e : b = s.heap.objs.size := by simpa using hb
      subst e
      exact I.fpOk (Nat.le_refl _) (I.hok.fresh (Nat.le_refl _))
    · exact q _ (yields_list ar F tv e hq tvs nt')
/-- an expression, as it is used in what is walked -/
theorem lI.run1 {e : Expr} {t : EW} {Q : List D → (SD → Prop) → SD → Prop} {P : D → SD → Prop} {pins : List (Addr × Obj)} {s : Shared} {σ : L2.St} {H : Hp} (he : PE X e (lE X t)) (I : Inv X pins σ H s) {env : ED} {A : SD} (er : ER X.K H σ env) (ar : ARx X A H) (h2 : t env A P) :
    wpAny (model X.prog X.w) X.A (eval e X.env) (fun u s1 => ∃ v H1 d A1, Inv X pins σ H1 s1 ∧ RelV v u ∧ KeepT H H1 ∧ ARx X A1 H1 ∧ TV X.K H1 v d ∧ P d A1) X.xe s :=
  thn (he.run pins s σ H (fun v H1 => ∃ d A1, KeepT H H1 ∧ ARx X A1 H1 ∧ TV X.K H1 v d ∧ P d A1) I ⟨env, A, _, er, ar, h2, fun d A1 v H1 q1 k1 ar1 tv1 => ⟨d, A1, k1, ar1, tv1, q1⟩⟩)
    fun u s1 ⟨v, H1, I1, r1, d, A1, k1, ar1, tv1, q1⟩ => ⟨v, H1, d, A1, I1, r1, k1, ar1, tv1, q1⟩
theorem lI.runA {es : List Expr} {t : AW} {P : List D → SD → Prop} {pos : Pos} {pins : List (Addr × Obj)} {s : Shared} {σ : L2.St} {H : Hp} (he : PA X es (lA X t)) (I : Inv X pins σ H s) {env : ED} {A : SD} (er : ER X.K H σ env) (ar : ARx X A H) (h2 : t env A P) :
    wpAny (model X.prog X.w) X.A (spliced (backTo pos (starEach es X.env))) (fun us s1 => ∃ vs H1 ds A1, Inv X pins σ H1 s1 ∧ Vals vs us ∧ KeepT H H1 ∧ ARx X A1 H1 ∧ TVs X.K H1 vs ds ∧ P ds A1) X.xe s :=
  thn (he.run pos pins s σ H (fun vs H1 => ∃ ds A1, KeepT H H1 ∧ ARx X A1 H1 ∧ TVs X.K H1 vs ds ∧ P ds A1) I ⟨env, A, _, er, ar, h2, fun d A1 v H1 q1 k1 ar1 tv1 => ⟨d, A1, k1, ar1, tv1, q1⟩⟩)
    fun u s1 ⟨v, H1, I1, r1, d, A1, k1, ar1, tv1, q1⟩ => ⟨v, H1, d, A1, I1, r1, k1, ar1, tv1, q1⟩
theorem xiseq {e : Expr} {t : EW} (he : PE X e (lE X t)) : PI X tg e (lI X (iSeq t)) := by
  refine ⟨fun pins s σ H R I h => ?_⟩
  obtain ⟨env, A, Q', er, ar, h2, k⟩ := h
  refine thn (lI.run1 (Q := Q') he I er ar h2) fun u s1 ⟨v, H1, d, A1, I1, r1, k1, ar1, tv1, ds, e1, q1⟩ => ?_
  exact iter_seq I1 r1 ar1 tv1 e1 fun J Y => k _ _ _ _ J q1 k1 ar1 Y
/-! ### ranges -/
/-- lo, lo + c, .. -/
def intsD (lo c : Int) (n : Nat) : List D := (List.range n).map fun i => D.int (lo + (i : Nat) * c)
theorem intsD_get {lo c : Int} {n i : Nat} {d : D} (h : (intsD lo c n)[i]? = some d) : i < n ∧ d = .int (lo + (i : Nat) * c) := by
  unfold intsD at h
  rw [List.getElem?_map] at h
  by_cases hi : i < n
  · rw [List.getElem?_range hi] at h
    simp at h
    exact ⟨hi, h.symm⟩
  · rw [List.getElem?_eq_none (by simpa using Nat.le_of_not_lt hi)] at h
    simp at h
theorem intsD_len (lo c : Int) (n : Nat) : (intsD lo c n).length = n := by simp [intsD]
theorem yields_range {H1 : Hp} {lo : Int} {n : Nat} {G : SD → Prop} (hz : n ≤ sizeLine) : Yields X (Itr lo n) (intsD lo 1 n) G H1 := by
  refine ⟨by rw [intsD_len]; exact hz, fun i x H A kk ar g hx => ?_, fun H A kk ar g => ?_⟩
  · obtain ⟨hi, rfl⟩ := intsD_get hx
    refine ⟨hi, fun y H' hy => ?_⟩
    obtain ⟨rfl, rfl⟩ := hy
    refine ⟨.refl _, ar, ?_⟩
    rw [Int.mul_one]
    exact .int _
  · show n ≤ _
    rw [intsD_len]; exact Nat.le_refl _
theorem yields_rangeC {H1 : Hp} {lo c : Int} {n : Nat} {G : SD → Prop} (hz : n ≤ sizeLine) : Yields X (Itc lo c n) (intsD lo c n) G H1 := by
  refine ⟨by rw [intsD_len]; exact hz, fun i x H A kk ar g hx => ?_, fun H A kk ar g => ?_⟩
  · obtain ⟨hi, rfl⟩ := intsD_get hx
    refine ⟨hi, fun y H' hy => ?_⟩
    obtain ⟨rfl, rfl⟩ := hy
    exact ⟨.refl _, ar, .int _⟩
  · show n ≤ _
    rw [intsD_len]; exact Nat.le_refl _
def iRng1 (t : AW) : IW := fun env A Q => t env A fun ds A1 => ∃ n, ds = [.int n] ∧ -(2 ^ 62) ≤ n ∧ n.toNat ≤ sizeLine ∧ Q (intsD 0 1 n.toNat) (fun _ => True) A1
def iRng2 (t : AW) : IW := fun env A Q => t env A fun ds A1 => ∃ a b, ds = [.int a, .int b] ∧ (-(2 ^ 62) ≤ a ∧ a < 2 ^ 62 ∧ -(2 ^ 62) ≤ b ∧ b < 2 ^ 62) ∧ (b - a).toNat ≤ sizeLine ∧ Q (intsD a 1 (b - a).toNat) (fun _ => True) A1
/-- range(a, b, -1) -/
def iRngN (t : AW) : IW := fun env A Q => t env A fun ds A1 => ∃ a b, ds = [.int a, .int b, .int (-1)] ∧ (-(2 ^ 62) ≤ a ∧ a < 2 ^ 62 ∧ -(2 ^ 62) ≤ b ∧ b < 2 ^ 62) ∧ (a - b).toNat ≤ sizeLine ∧ Q (intsD a (-1) (a - b).toNat) (fun _ => True) A1
theorem xirng1 {a : Expr} {ta : AW} {p pos : Pos} (hg : Gl X "range") (hm : X.mg "range" = none) (ha : PA X [a] (lA X ta)) (hs : starEach [a] X.env = [(false, eval a X.env)] := by rfl) : PI X tg (.Call (.Name "range" p) [a] [] pos) (lI X (iRng1 ta)) :=
  PI.imp (pi_range1 hg hm ha hs) fun σ H R h => by
    obtain ⟨env, A, Q', er, ar, h2, k⟩ := h
    refine ⟨env, A, _, er, ar, h2, fun ds A1 vs H1 q1 k1 ar1 tv1 => ?_⟩
    obtain ⟨n, rfl, h1, h2, h3⟩ := q1
    cases tv1 with
    | cons t ts =>
      cases ts
      cases t
      have hsl : (sizeLine : Nat) = 16777216 := sizeLine_eq
      exact ⟨n, rfl, h1, by omega, k _ _ _ _ _ h3 k1 ar1 (yields_range h2)⟩
theorem xirng2 {a b : Expr} {ta : AW} {p pos : Pos} (hg : Gl X "range") (hm : X.mg "range" = none) (ha : PA X [a, b] (lA X ta)) (hs : starEach [a, b] X.env = [(false, eval a X.env), (false, eval b X.env)] := by rfl) (hs2 : starEach [b] X.env = [(false, eval b X.env)] := by rfl) : PI X tg (.Call (.Name "range" p) [a, b] [] pos) (lI X (iRng2 ta)) :=
  PI.imp (pi_range2 hg hm ha hs hs2) fun σ H R h => by
    obtain ⟨env, A, Q', er, ar, h2, k⟩ := h
    refine ⟨env, A, _, er, ar, h2, fun ds A1 vs H1 q1 k1 ar1 tv1 => ?_⟩
    obtain ⟨a, b, rfl, h1, h2, h3⟩ := q1
    cases tv1 with
    | cons t ts =>
      cases ts with
      | cons t2 ts2 =>
        cases ts2
        cases t
        cases t2
        exact ⟨a, b, rfl, h1, k _ _ _ _ _ h3 k1 ar1 (yields_range h2)⟩
theorem xirngN {a b c : Expr} {ta : AW} {p pos : Pos} (hg : Gl X "range") (hm : X.mg "range" = none) (ha : PA X [a, b, c] (lA X ta)) (hs : starEach [a, b, c] X.env = (false, eval a X.env) :: starEach [b, c] X.env := by rfl) (hpl : (backTo pos (starEach [b, c] X.env)).any (·.1) = false := by rfl) : PI X tg (.Call (.Name "range" p) [a, b, c] [] pos) (lI X (iRngN ta)) :=
  PI.imp (pi_range3 hg hm ha hs hpl) fun σ H R h => by
    obtain ⟨env, A, Q', er, ar, h2, k⟩ := h
    refine ⟨env, A, _, er, ar, h2, fun ds A1 vs H1 q1 k1 ar1 tv1 => ?_⟩
    obtain ⟨a, b, rfl, ⟨b1, b2, b3, b4⟩, h2, h3⟩ := q1
    cases tv1 with
    | cons t ts =>
      cases ts with
      | cons t2 ts2 =>
        cases ts2 with
        | cons t3 ts3 =>
          cases ts3
          cases t
          cases t2
          cases t3
          exact ⟨a, b, -1, _, rfl, RgC.neg b1 b2 b3 b4, k _ _ _ _ _ h3 k1 ar1 (yields_rangeC h2)⟩
end
/-! ### enumerate, zip, of lists, tuples, texts -/
inductive Knd where
  | lst (a : Addr) | tup (a : Addr) | txt (x : Str) (t : Tok)
def Knd.val : Knd → Value
  | .lst a => .ref a | .tup a => .ref a | .txt x t => .str x t
def Knd.src (K : PySem.W.Frag) (H : Hp) : Knd → List V → Prop
  | .lst a, xs => SqL K H a xs
  | .tup a, xs => SqT K H a xs
  | .txt x _, xs => xs = x.cps.toList.map fun c => V.str ⟨#[c]⟩
def Knd.obj : Knd → Obj
  | .lst a => { cls := .type "list_iterator", data := .fields #[.ref a, .int 0 0] }
  | .tup a => { cls := .type "tuple_iterator", data := .fields #[.ref a, .int 0 0] }
  | .txt x t => { cls := .type (strIterType x), data := .fields #[.str x t, .int 0 0] }
def Knd.it (k : Knd) (h : Heap) (it : Addr) (i : Nat) : Prop := match k with
  | .lst a => h.IsListIter it a i
  | .tup a => h.IsTupleIter it a i
  | .txt x t => h.IsStrIter it (strIterType x) x t i
section
variable {X : Cx} {pins : List (Addr × Obj)} {σ : L2.St} {H : Hp} {s : Shared} {k : Knd} {xs ys : List V} {P : Program} {w : World} {K : PySem.W.Frag}
theorem Knd.inj (I : Inv X pins σ H s) (h1 : k.src X.K H xs) (h2 : k.src X.K H ys) : xs = ys := by
  cases k with
  | lst a => exact I.list_inj h1 h2
  | tup a => exact I.tuple_inj h1 h2
  | txt x t => exact Eq.trans h1 (Eq.symm h2)
def Knd.fp : Knd → List Addr
  | .lst a => [a] | .tup a => [a] | .txt _ _ => []
def Knd.st (its : Array Value) (h : Heap) : Knd → Prop
  | .lst a => h.IsList a its
  | .tup a => h.IsTuple a its
  | .txt _ _ => True
def Knd.len (its : Array Value) : Knd → Nat
  | .txt x _ => x.cps.size
  | _ => its.size
def Knd.Pp (its : Array Value) : Knd → Nat → Value → Prop
  | .txt x _ => fun i v => ∃ c u, x.cps[i]? = some c ∧ v = .str ⟨#[c]⟩ u
  | _ => fun i v => its[i]? = some v
theorem Knd.atH (I : Inv X pins σ H s) (h : k.src X.K H xs) : ∃ its, k.st its s.heap ∧ k.len its = xs.length ∧ ∀ i v, k.Pp its i v → ∃ x, xs[i]? = some x ∧ RelV x v := by
  have key : ∀ its : List Value, Vals xs its → ∀ (i : Nat) (v : Value), its.toArray[i]? = some v → ∃ x, xs[i]? = some x ∧ RelV x v := fun its rv i v hv => by
    have hv' : its[i]? = some v := by simpa using hv
    have hl : i < xs.length := by
      have := (List.getElem?_eq_some_iff.mp hv').1
      rw [rv.length]; exact this
    obtain ⟨u, hu, ru⟩ := rv.get (i := i) (List.getElem?_eq_getElem hl)
    rw [hv'] at hu; cases hu
    exact ⟨_, List.getElem?_eq_getElem hl, ru⟩
  cases k with
  | lst a =>
    obtain ⟨its, rv, p, _⟩ := I.list h
    exact ⟨its.toArray, p.isList, by simp [Knd.len, rv.length], key its rv⟩
  | tup a =>
    obtain ⟨its, rv, p, _⟩ := I.tuple h
    exact ⟨its.toArray, p, by simp [Knd.len, rv.length], key its rv⟩
  | txt x t =>
    have h' : xs = x.cps.toList.map fun c => V.str ⟨#[c]⟩ := h
    subst h'
    refine ⟨#[], trivial, by simp [Knd.len], fun i v hv => ?_⟩
    obtain ⟨c, u, hc, rfl⟩ := hv
    refine ⟨.str ⟨#[c]⟩, ?_, ⟨u, rfl⟩⟩
    rw [List.getElem?_map, Array.getElem?_toList, hc]
    rfl
theorem Knd.dr {prog : Program} {w : World} {A : Around} (hh : A.handled = none) (k : Knd) (its : Array Value) (it : Addr) (hne : it ∉ k.fp) : Draws prog w A it (it :: k.fp) (k.len its) (k.Pp its) (fun i h => k.it h it i ∧ k.st its h) := by
  cases k with
  | lst a => exact Draws.list hh it a (fun e => hne (by simp [Knd.fp, e])) its
  | tup a => exact Draws.tuple hh it a (fun e => hne (by simp [Knd.fp, e])) its
  | txt x t =>
    have D := Draws.text (prog := prog) (w := w) hh it x t
    exact ⟨fun i h st => D.live i h st.1, fun i h h' st hk => ⟨D.frame i h h' st.1 hk, trivial⟩, fun i s Q E hi st hQ => D.item i s Q E hi st.1 fun x h' tk hp st' hs => hQ x h' tk hp ⟨st', trivial⟩ hs, fun s Q E st hE => D.done s Q E st.1 hE⟩
theorem Knd.begins (k : Knd) (its : Array Value) : Begins k.val k.obj fun h => k.st its h := by
  cases k with
  | lst a => exact begins_list a its
  | tup a => exact begins_tuple a its
  | txt x t => exact begins_text x t
theorem Knd.it0 {k : Knd} {h : Heap} {it : Addr} (e : h.get? it = some k.obj) : k.it h it 0 := by
  cases k with
  | lst a => exact ⟨_, e, rfl, rfl⟩
  | tup a => exact ⟨_, e, rfl, rfl⟩
  | txt x t => exact ⟨_, e, rfl, rfl⟩
theorem Knd.itAt {k : Knd} {h h' : Heap} {it : Addr} {i : Nat} (x : k.it h it i) (e : ∀ o, h.get? it = some o → h'.get? it = some o) : k.it h' it i := by
  cases k with
  | lst a => exact let ⟨o, ho, r⟩ := x; ⟨o, e o ho, r⟩
  | tup a => exact let ⟨o, ho, r⟩ := x; ⟨o, e o ho, r⟩
  | txt z t => exact let ⟨o, ho, r⟩ := x; ⟨o, e o ho, r⟩
theorem Knd.itObj {k : Knd} {h : Heap} {it : Addr} {i : Nat} (x : k.it h it i) : ∃ o, h.get? it = some o ∧ ∀ v, o.data ≠ .cell v := by
  cases k with
  | lst a => exact let ⟨o, ho, _, r⟩ := x; ⟨o, ho, fun v q => by rw [r] at q; cases q⟩
  | tup a => exact let ⟨o, ho, _, r⟩ := x; ⟨o, ho, fun v q => by rw [r] at q; cases q⟩
  | txt z t => exact let ⟨o, ho, _, r⟩ := x; ⟨o, ho, fun v q => by rw [r] at q; cases q⟩
/-- what is walked stands apart from the iterators -/
theorem Knd.apart (I : Inv X pins σ H s) (h : k.src X.K H xs) {b : Addr} (hb : FpOk X pins H b) : b ∉ k.fp := by
  have inK : ∀ a o, X.K.lookup a = some o → b ≠ a := fun a o e z => by
    subst z
    have hb0 := I.ok.mod.kin _ o e
    obtain ⟨h1, h2, h3, h4, h5, h6⟩ := hb
    rcases h4 with h4 | h4
    · exact I.ok.noex _ o hb0 h4
    · exact absurd (Nat.lt_of_lt_of_le (Heap.lt_size hb0) (Nat.le_trans I.ok.bsz h4)) (Nat.lt_irrefl _)
  have inH : ∀ a u, Rd H a u → b ≠ a := fun a u r z => by
    subst z
    rcases r with r | ⟨o, r⟩
    · rw [hb.1] at r; cases r
    · rw [hb.1] at r; cases r
  intro hm
  cases k with
  | lst a =>
    have e : b = a := by simpa [Knd.fp] using hm
    rcases h with r | ⟨o, its, n, r, _⟩
    · exact inH a _ r e
    · exact inK a o r e
  | tup a =>
    have e : b = a := by simpa [Knd.fp] using hm
    rcases h with r | ⟨o, its, n, r, _⟩
    · exact inH a _ r e
    · exact inK a o r e
  | txt x t => cases hm
/-! enumerate -/
def IteX (K : PySem.W.Frag) (k : Knd) : It :=
  ⟨fun i H => ∃ (xs : List V) (x : V), k.src K H xs ∧ xs[i]? = some x, fun i H v H' => ∃ T x, v = .ref T ∧ H T = none ∧ H' = upd H T (.tup [.int (i : Nat), x]) ∧ ∀ xs, k.src K H xs → xs[i]? = some x, fun i H => ∃ xs : List V, k.src K H xs ∧ xs.length = i⟩
theorem turn_enumX {elts : List Expr} {kk : Nat} {tpos : Pos} (k : Knd) (e it : Addr) :
    Turn P w K (.Tuple elts kk tpos) (IteX K k) [e, it] e (fun i h => (∃ old, IsEnum h e it (0 + ((i : Nat) : Int)) old) ∧ k.it h it i ∧ e ≠ it) where
  mem := by simp
  obj := fun i h st b hb => by
    obtain ⟨⟨old, he⟩, hi, _⟩ := st
    have e' : b = e ∨ b = it := by simpa using hb
    rcases e' with z | z
    · rw [z]; exact ⟨_, he, fun v q => nomatch q⟩
    · rw [z]; exact (Knd.itObj hi)
  keep := fun i h h' st kk => let ⟨⟨old, he⟩, hi, hne⟩ := st; ⟨⟨old, kk e (by simp) _ he⟩, Knd.itAt hi fun o q => kk it (by simp) o q, hne⟩
  item := by
    intro X hP hw hK hc i pins s σ H E I hf st hg
    subst hP hw hK
    obtain ⟨⟨old, he⟩, hit, hne⟩ := st
    obtain ⟨xs, x, hq, hx⟩ := hg
    obtain ⟨its, hst, hlen, hP⟩ := Knd.atH I hq
    have hlt : i < k.len its := by rw [hlen]; exact (List.getElem?_eq_some_iff.mp hx).1
    have ae : e ∉ k.fp := Knd.apart I hq (hf e (by simp))
    have ai : it ∉ k.fp := Knd.apart I hq (hf it (by simp))
    have D := Knd.dr (prog := X.prog) (w := X.w) (A := X.A.in1) (I.ok.hd hc) k its it ai
    have G := GoesN.enumFrom (A := X.A) (elts := elts) (x1 := kk) (pos := tpos) 0 D e hne (by simpa using ⟨hne, ae⟩) (by simp)
    refine G.goes i s (fun v s2 => ∃ x H', Inv X pins σ H' s2 ∧ RelV x v ∧ (IteX X.K k).yld i H x H' ∧ ((∃ old, IsEnum s2.heap e it (0 + ((i + 1 : Nat) : Int)) old) ∧ k.it s2.heap it (i + 1) ∧ e ≠ it) ∧ ∀ b ∈ [e, it], H' b = none) E hlt ⟨⟨old, he⟩, hit, hst⟩ fun v h' tk hY st' hk htk => ?_
    obtain ⟨T, t, u, rfl, hT, hPu, hTup⟩ := hY
    obtain ⟨x', hx', ru⟩ := hP i u hPu
    rw [hx] at hx'; cases hx'
    have new : ObjOk X.prog X.w (upd H T (.tup [.int (i : Nat), x])) h' T (.tup [.int (i : Nat), x]) := by
      rw [Int.zero_add] at hTup
      exact ⟨by show 2 ≤ sizeLine; decide, [.int i t, u], .cons ⟨_, rfl⟩ (.cons ru .nil), hTup⟩
    have I1 : Inv X pins σ (upd H T (.tup [.int (i : Nat), x])) { s with heap := h', toks := tk } := I.turnedNew (ch := [e, it]) hk hf hT new
    have hfr : H T = none := I.hok.fresh hT
    refine ⟨.ref T, _, I1, rfl, ⟨T, x, rfl, hfr, rfl, fun ys hy => by rw [Knd.inj I hy hq]; exact hx⟩, ⟨st'.1, st'.2.1, hne⟩, fun b hb => ?_⟩
    have hb' : b < s.heap.objs.size := by
      have e' : b = e ∨ b = it := by simpa using hb
      rcases e' with z | z
      · rw [z]; exact Heap.lt_size he
      · rw [z]
        obtain ⟨o, ho, _⟩ := (Knd.itObj hit)
        exact Heap.lt_size ho
    rw [upd_ne (Nat.ne_of_lt (Nat.lt_of_lt_of_le hb' hT))]
    exact (hf b hb).1
  done := by
    intro X hP hw hK hc i pins s σ H E I hf st hg
    subst hP hw hK
    obtain ⟨⟨old, he⟩, hit, hne⟩ := st
    obtain ⟨xs, hq, hx⟩ := hg
    obtain ⟨its, hst, hlen, hP⟩ := Knd.atH I hq
    have ae : e ∉ k.fp := Knd.apart I hq (hf e (by simp))
    have ai : it ∉ k.fp := Knd.apart I hq (hf it (by simp))
    have D := Knd.dr (prog := X.prog) (w := X.w) (A := X.A.in1) (I.ok.hd hc) k its it ai
    have G := GoesN.enumFrom (A := X.A) (elts := elts) (x1 := kk) (pos := tpos) 0 D e hne (by simpa using ⟨hne, ae⟩) (by simp)
    refine G.stops s (fun s1 => Inv X pins σ H s1) E (by rw [hlen, hx]; exact ⟨⟨old, he⟩, hit, hst⟩) fun h' tk hk htk => I.turnedL (ch := [e, it]) hk hf
  self := fun A i s Q E st h => let ⟨⟨_, he⟩, _⟩ := st; wpAny_pyIter_enum he h
/-! zip -/
def ItzX (K : PySem.W.Frag) (k l : Knd) : It :=
  ⟨fun i H => ∃ (xs ys : List V) (x y : V), k.src K H xs ∧ l.src K H ys ∧ xs[i]? = some x ∧ ys[i]? = some y,
    fun i H v H' => ∃ T x y, v = .ref T ∧ H T = none ∧ H' = upd H T (.tup [x, y]) ∧ (∀ xs, k.src K H xs → xs[i]? = some x) ∧ ∀ ys, l.src K H ys → ys[i]? = some y,
    fun i H => ∃ xs ys : List V, k.src K H xs ∧ l.src K H ys ∧ i = min xs.length ys.length⟩
structure ZipFp (z TI TO i1 i2 : Addr) : Prop where
  TIz : TI ≠ z
  TOz : TO ≠ z
  TITO : TI ≠ TO
  TIi1 : TI ≠ i1
  TIi2 : TI ≠ i2
  zi1 : z ≠ i1
  zi2 : z ≠ i2
  Ti1 : TO ≠ i1
  Ti2 : TO ≠ i2
  ii : i1 ≠ i2
theorem turn_zipX {elts : List Expr} {kk : Nat} {tpos : Pos} (k l : Knd) {z TI TO i1 i2 : Addr} (F : ZipFp z TI TO i1 i2) :
    Turn P w K (.Tuple elts kk tpos) (ItzX K k l) [z, TI, TO, i1, i2] z (fun i h => IsZip h z TI TO .none ∧ IsTupOf2 h TI (.ref i1) (.ref i2) ∧ (∃ x y, IsTupOf2 h TO x y) ∧ k.it h i1 i ∧ l.it h i2 i) where
  mem := by simp
  obj := fun i h st c hc => by
    obtain ⟨hz, hTI, ⟨x, y, hTO⟩, h1, h2⟩ := st
    have e' : c = z ∨ c = TI ∨ c = TO ∨ c = i1 ∨ c = i2 := by simpa using hc
    rcases e' with q | q | q | q | q
    · rw [q]; exact ⟨_, hz, fun v q => nomatch q⟩
    · rw [q]; exact ⟨_, hTI, fun v q => nomatch q⟩
    · rw [q]; exact ⟨_, hTO, fun v q => nomatch q⟩
    · rw [q]; exact (Knd.itObj h1)
    · rw [q]; exact (Knd.itObj h2)
  keep := fun i h h' st kk => by
    obtain ⟨hz, hTI, ⟨x, y, hTO⟩, h1, h2⟩ := st
    exact ⟨kk z (by simp) _ hz, kk TI (by simp) _ hTI, ⟨x, y, kk TO (by simp) _ hTO⟩, Knd.itAt h1 fun o q => kk i1 (by simp) o q, Knd.itAt h2 fun o q => kk i2 (by simp) o q⟩
  item := by
    intro X hP hw hK hc i pins s σ H E I hf st hg
    subst hP hw hK
    obtain ⟨hz, hTI, ⟨x0, y0, hTO⟩, h1, h2⟩ := st
    obtain ⟨xs, ys, x, y, hqx, hqy, hx, hy⟩ := hg
    obtain ⟨its, hst, hlen, hP⟩ := Knd.atH I hqx
    obtain ⟨its2, hst2, hlen2, hP2⟩ := Knd.atH I hqy
    have lx := (List.getElem?_eq_some_iff.mp hx).1
    have ly := (List.getElem?_eq_some_iff.mp hy).1
    have hlt : i < min (k.len its) (l.len its2) := by rw [hlen, hlen2]; omega
    have ap : ∀ b ∈ [z, TI, TO, i1, i2], b ∉ k.fp ∧ b ∉ l.fp := fun b hb => ⟨Knd.apart I hqx (hf b hb), Knd.apart I hqy (hf b hb)⟩
    have D1 := Knd.dr (prog := X.prog) (w := X.w) (A := X.A.in1) (I.ok.hd hc) k its i1 (ap i1 (by simp)).1
    have D2 := Knd.dr (prog := X.prog) (w := X.w) (A := X.A.in1) (I.ok.hd hc) l its2 i2 (ap i2 (by simp)).2
    have S : ZipSep2 z TI TO i1 i2 (i1 :: k.fp) (i2 :: l.fp) := ⟨F.TIz, F.TOz, F.TITO, F.TIi1, by simp, by simpa using ⟨F.zi1, (ap z (by simp)).1⟩, by simpa using ⟨F.Ti1, (ap TO (by simp)).1⟩, F.TIi2, by simp, by simpa using ⟨F.zi2, (ap z (by simp)).2⟩, by simpa using ⟨F.Ti2, (ap TO (by simp)).2⟩,
      by simpa using ⟨F.ii, (ap i1 (by simp)).2⟩, by simpa using ⟨F.ii.symm, (ap i2 (by simp)).1⟩⟩
    have G := GoesN.zip2 (A := X.A) (elts := elts) (x1 := kk) (pos := tpos) S D1 D2
    refine G.goes i s (fun v s2 => ∃ x H', Inv X pins σ H' s2 ∧ RelV x v ∧ (ItzX X.K k l).yld i H x H' ∧ (IsZip s2.heap z TI TO .none ∧ IsTupOf2 s2.heap TI (.ref i1) (.ref i2) ∧ (∃ x y, IsTupOf2 s2.heap TO x y) ∧ k.it s2.heap i1 (i + 1) ∧ l.it s2.heap i2 (i + 1)) ∧ ∀ b ∈ [z, TI, TO, i1, i2], H' b = none) E hlt ⟨hz, hTI, ⟨x0, y0, hTO⟩, ⟨h1, hst⟩, h2, hst2⟩ fun v h' tk hY st' hk htk => ?_
    obtain ⟨T, u1, u2, rfl, hT, hPu, hPu2, hTup⟩ := hY
    obtain ⟨x', hx', ru⟩ := hP i u1 hPu
    obtain ⟨y', hy', ru2⟩ := hP2 i u2 hPu2
    rw [hx] at hx'; cases hx'
    rw [hy] at hy'; cases hy'
    have new : ObjOk X.prog X.w (upd H T (.tup [x, y])) h' T (.tup [x, y]) := ⟨by show 2 ≤ sizeLine; decide, [u1, u2], .cons ru (.cons ru2 .nil), hTup⟩
    have I1 : Inv X pins σ (upd H T (.tup [x, y])) { s with heap := h', toks := tk } := I.turnedNew (ch := [z, TI, TO, i1, i2]) (fun b o hb => hk b o fun hb' => hb (by
      have : b = z ∨ b = TO ∨ b = i1 ∨ b = i2 := by simpa using hb'
      rcases this with q | q | q | q <;> simp [q])) hf hT new
    have hfr : H T = none := I.hok.fresh hT
    refine ⟨.ref T, _, I1, rfl, ⟨T, x, y, rfl, hfr, rfl, fun l hl => by rw [Knd.inj I hl hqx]; exact hx, fun l hl => by rw [Knd.inj I hl hqy]; exact hy⟩, ⟨st'.1, st'.2.1, st'.2.2.1, st'.2.2.2.1.1, st'.2.2.2.2.1⟩, fun c hcm => ?_⟩
    have hlt : c < s.heap.objs.size := by
      have e' : c = z ∨ c = TI ∨ c = TO ∨ c = i1 ∨ c = i2 := by simpa using hcm
      rcases e' with q | q | q | q | q
      · rw [q]; exact Heap.lt_size hz
      · rw [q]; exact Heap.lt_size hTI
      · rw [q]; exact Heap.lt_size hTO
      · rw [q]; obtain ⟨_, e1, _⟩ := (Knd.itObj h1); exact Heap.lt_size e1
      · rw [q]; obtain ⟨_, e2, _⟩ := (Knd.itObj h2); exact Heap.lt_size e2
    rw [upd_ne (Nat.ne_of_lt (Nat.lt_of_lt_of_le hlt hT))]
    exact (hf c hcm).1
  done := by
    intro X hP hw hK hc i pins s σ H E I hf st hg
    subst hP hw hK
    obtain ⟨hz, hTI, ⟨x0, y0, hTO⟩, h1, h2⟩ := st
    obtain ⟨xs, ys, hqx, hqy, hend⟩ := hg
    obtain ⟨its, hst, hlen, hP⟩ := Knd.atH I hqx
    obtain ⟨its2, hst2, hlen2, hP2⟩ := Knd.atH I hqy
    have ap : ∀ b ∈ [z, TI, TO, i1, i2], b ∉ k.fp ∧ b ∉ l.fp := fun b hb => ⟨Knd.apart I hqx (hf b hb), Knd.apart I hqy (hf b hb)⟩
    have D1 := Knd.dr (prog := X.prog) (w := X.w) (A := X.A.in1) (I.ok.hd hc) k its i1 (ap i1 (by simp)).1
    have D2 := Knd.dr (prog := X.prog) (w := X.w) (A := X.A.in1) (I.ok.hd hc) l its2 i2 (ap i2 (by simp)).2
    have S : ZipSep2 z TI TO i1 i2 (i1 :: k.fp) (i2 :: l.fp) := ⟨F.TIz, F.TOz, F.TITO, F.TIi1, by simp, by simpa using ⟨F.zi1, (ap z (by simp)).1⟩, by simpa using ⟨F.Ti1, (ap TO (by simp)).1⟩, F.TIi2, by simp, by simpa using ⟨F.zi2, (ap z (by simp)).2⟩, by simpa using ⟨F.Ti2, (ap TO (by simp)).2⟩,
      by simpa using ⟨F.ii, (ap i1 (by simp)).2⟩, by simpa using ⟨F.ii.symm, (ap i2 (by simp)).1⟩⟩
    have G := GoesN.zip2 (A := X.A) (elts := elts) (x1 := kk) (pos := tpos) S D1 D2
    refine G.stops s (fun s1 => Inv X pins σ H s1) E (by rw [hlen, hlen2, ← hend]; exact ⟨hz, hTI, ⟨x0, y0, hTO⟩, ⟨h1, hst⟩, h2, hst2⟩) fun h' tk hk htk => I.turnedL (ch := [z, TI, TO, i1, i2]) (fun b o hb => hk b o fun hb' => hb (by
      have : b = z ∨ b = TO ∨ b = i1 ∨ b = i2 := by simpa using hb'
      rcases this with q | q | q | q <;> simp [q])) hf
  self := fun A i s Q E st h => let ⟨hz, _⟩ := st; wpAny_pyIter_zip hz h
end
end TL

/-! TF: enumerate and zip as sources; comprehensions. -/
namespace TL
open PySem PySem.Spec L2
section
variable {X : Cx} {pins : List (Addr × Obj)} {σ : L2.St} {H : Hp} {s : Shared} {A : SD}
def chars (x : Str) : List D := x.cps.toList.map fun c => D.str ⟨#[c]⟩
/-- the items of a list, a tuple, a text -/
def kv (A : SD) : D → Option (List D)
  | .str x => some (chars x)
  | d => qv A d
theorem TVs.chars {K : PySem.W.Frag} {H : Hp} (x : Str) : TVs K H (x.cps.toList.map fun c => V.str ⟨#[c]⟩) (chars x) := by
  unfold TL.chars
  induction x.cps.toList with
  | nil => exact .nil
  | cons c l ih => exact .cons (.str _) ih
theorem knd_of {v : V} {u : Value} {d : D} {ds : List D} (r : RelV v u) (ar : ARx X A H) (tv : TV X.K H v d) (e : kv A d = some ds) :
    ∃ k : Knd, u = k.val ∧ (∃ vs, k.src X.K H vs ∧ TVs X.K H vs ds) ∧ ∀ H' A', KeepT H H' → ARx X A' H' → kv A' d = some ds → ∃ vs, k.src X.K H' vs ∧ TVs X.K H' vs ds := by
  cases d with
  | str x =>
    obtain rfl : chars x = ds := Option.some.inj e
    cases tv
    obtain ⟨t, rfl⟩ := r
    exact ⟨.txt x t, rfl, ⟨_, rfl, TVs.chars x⟩, fun H' A' _ _ _ => ⟨_, rfl, TVs.chars x⟩⟩
  | tup es =>
    obtain rfl : es = ds := Option.some.inj e
    cases tv with
    | tup h t =>
      cases r
      exact ⟨.tup _, rfl, ⟨_, h, t⟩, fun H' A' kk _ _ => ⟨_, SqT.keep kk h, t.keep kk⟩⟩
  | _ =>
    obtain ⟨a, vs, rfl, h1, h2⟩ := lv_sq ar tv e
    cases r
    refine ⟨.lst a, rfl, ⟨vs, h1, h2⟩, fun H' A' kk ar' e' => ?_⟩
    obtain ⟨a', ws, e1, h3, h4⟩ := lv_sq ar' (tv.keep kk) e'
    cases e1
    exact ⟨ws, h3, h4⟩
theorem knd_len (F : Fits X.K H) {k : Knd} {vs : List V} {ds : List D} {d : D} (e : kv A d = some ds) (h : k.src X.K H vs) (t : TVs X.K H vs ds) (hx : ∀ x t, k = .txt x t → x.length ≤ sizeLine) : ds.length ≤ sizeLine := by
  rw [← t.length]
  cases k with
  | lst a => exact F.1 a vs h
  | tup a => exact F.2 a vs h
  | txt x t =>
    have h' : vs = x.cps.toList.map fun c => V.str ⟨#[c]⟩ := h
    rw [h', List.length_map]
    exact hx x t rfl
/-- (0, x0), (1, x1), .. -/
def enumD (xs : List D) : List D := xs.zipIdx.map fun p => D.tup [.int (p.2 : Nat), p.1]
theorem enumD_get (xs : List D) (i : Nat) : (enumD xs)[i]? = xs[i]?.map fun x => D.tup [.int (i : Nat), x] := by
  unfold enumD
  rw [List.getElem?_map, List.getElem?_zipIdx]
  cases xs[i]? <;> simp
theorem enumD_len (xs : List D) : (enumD xs).length = xs.length := by simp [enumD]
def iEnum (t : AW) : IW := fun env A Q => t env A fun ds A1 => ∃ d xs, ds = [d] ∧ kv A1 d = some xs ∧ xs.length ≤ sizeLine ∧ Q (enumD xs) (fun A' => kv A' d = some xs) A1
theorem meets_enumerate_newV {v : Value} {o : Obj} {H : Heap → Prop} (B : Begins v o H) :
    Meets (Builtin.«enumerate.__new__» ⟨[.type "enumerate", v], []⟩) (fun _ R s => H s.heap ∧
      R (.ok (.ret (.ref (s.heap.push o).objs.size))) { s with heap := (s.heap.push o).push { cls := .type "enumerate", data := .fields #[.none, .bool false, .ref s.heap.objs.size, rawInt 0, .none, .none] } }) :=
  .of_wp fun prog w A R s h => by
    obtain ⟨hp, g, d, tk, os⟩ := s; obtain ⟨h1, h⟩ := h
    have hsub := sub_enumerate
    have q1 : ∀ {A' : Around} {E : Value → Shared → Prop} {Q : Value → Shared → Prop}, Q (.ref hp.objs.size) ⟨hp.push o, g, d, tk, os⟩ → wpAny (model prog w) A' (pyIter v) Q E ⟨hp, g, d, tk, os⟩ :=
      fun q => B.iter prog w _ _ ⟨hp, g, d, tk, os⟩ _ h1 q
    wp_walk using q1
    refine wpAny_stack_any fun st => wpAny_pure ?_
    split
    · rename_i c _ _ _ _ _
      cases (c == Value.type "enumerate")
      · wp_walk using q1
        exact ⟨_, rfl, h⟩
      · wp_walk using q1
        exact ⟨_, rfl, h⟩
    · wp_walk using q1
      exact ⟨_, rfl, h⟩
theorem call_enumV {prog : Program} {w : World} {A : Around} {E : Value → Shared → Prop} {s : Shared} {v : Value} {o : Obj} {H : Heap → Prop} {Q : Value → Shared → Prop} (B : Begins v o H) (h1 : H s.heap)
    (h : ∀ h', IsEnum h' (s.heap.objs.size + 1) s.heap.objs.size 0 .none → h'.get? s.heap.objs.size = some o →
      (∀ b o, s.heap.get? b = some o → h'.get? b = some o) → Q (.ref (s.heap.objs.size + 1)) { s with heap := h' }) :
    wpAny (model prog w) A (call (.type "enumerate") [v]) Q E s := by
  refine callType_new F.called_enumerate (by decide) (F.typeCall_enumerate_1 _) (F.newCall_enumerate_1 _) (fun obj => F.args_object_init_2 obj _) F.entry_enumerate_new
    (meets_enumerate_newV B) ⟨h1, ?_⟩
  have hz : (s.heap.push o).objs.size = s.heap.objs.size + 1 := Heap.size_push ..
  show _ ∧ _
  rw [hz]
  have he : IsEnum ((s.heap.push o).push
      { cls := .type "enumerate", data := .fields #[.none, .bool false, .ref s.heap.objs.size, rawInt 0, .none, .none] }) (s.heap.objs.size + 1) s.heap.objs.size 0 .none := by
    have := Heap.get?_push_size (s.heap.push o)
      (o := { cls := .type "enumerate", data := .fields #[.none, .bool false, .ref s.heap.objs.size, rawInt 0, .none, .none] }) rfl
    rw [hz] at this; exact this
  exact ⟨⟨_, he, rfl⟩, h _ he (Heap.get?_push_of_some _ (Heap.get?_push_size _ B.free)) fun b o y => Heap.get?_push_of_some _ (Heap.get?_push_of_some _ y)⟩
theorem xienum {e : Expr} {ta : AW} {p pos tpos : Pos} {elts : List Expr} {kk : Nat} (hg : Gl X "enumerate") (hm : X.mg "enumerate" = none) (ha : PA X [e] (lA X ta)) (hs : starEach [e] X.env = [(false, eval e X.env)] := by rfl) :
    PI X (.Tuple elts kk tpos) (.Call (.Name "enumerate" p) [e] [] pos) (lI X (iEnum ta)) := by
  refine ⟨fun pins s σ H R I h => ?_⟩
  obtain ⟨env, A, Q', er, ar, h2, k⟩ := h
  refine PyProof.Rows.Call_ (ld_blt I hg hm PyProof.Rows.boot_enumerate (PyProof.Rows.callWith_type1 (thn (lI.runA (pos := pos) ha I er ar h2) fun us s1 ⟨vs, H1, ds, A1, I1, r1, k1, ar1, tv1, q1⟩ => ?_) hs rfl))
  obtain ⟨d, xs, rfl, e1, hz, q1⟩ := q1
  cases tv1 with
  | cons t ts =>
    cases ts
    cases r1 with
    | cons r rr =>
      cases rr
      obtain ⟨kd, rfl, ⟨ws, hsrc, tws⟩, keep⟩ := knd_of r ar1 t e1
      obtain ⟨its, hst, hlen, hP⟩ := Knd.atH I1 hsrc
      refine call_enumV (kd.begins its) hst fun h' he hit hk => wpAny_pyIter_enum he ?_
      have I2 : Inv X pins σ H1 { s1 with heap := h' } := I1.kept (t' := s1.toks) hk
      refine ⟨s1.heap.objs.size + 1, [s1.heap.objs.size + 1, s1.heap.objs.size], _, _, H1, rfl, I2, turn_enumX kd (s1.heap.objs.size + 1) s1.heap.objs.size, ⟨⟨.none, he⟩, Knd.it0 hit, Nat.succ_ne_self _⟩, fun b hb => ?_, ?_⟩
      · have e' : b = s1.heap.objs.size + 1 ∨ b = s1.heap.objs.size := by simpa using hb
        have hle : s1.heap.objs.size ≤ b := by
          rcases e' with z | z
          · rw [z]; exact Nat.le_add_right _ _
          · rw [z]; exact Nat.le_refl _
        exact I1.fpOk hle (I1.hok.fresh hle)
      · refine k _ _ _ _ _ q1 k1 ar1 ⟨by rw [enumD_len]; exact hz, fun i x H2 A2 kk2 ar2 g2 hx => ?_, fun H2 A2 kk2 ar2 g2 => ?_⟩
        · rw [enumD_get] at hx
          cases ex : xs[i]? with
          | none => rw [ex] at hx; cases hx
          | some y =>
            rw [ex] at hx
            cases hx
            obtain ⟨us, hu, tus⟩ := keep H2 A2 kk2 ar2 g2
            obtain ⟨v, hv, tvv⟩ := tus.get ex
            refine ⟨⟨us, v, hu, hv⟩, fun z H' hy => ?_⟩
            obtain ⟨T, x', rfl, hT, rfl, hy⟩ := hy
            have := hy us hu
            rw [hv] at this; cases this
            exact ⟨.new hT, ar2.new hT, .tup (SqT.of upd_same) (.cons (.int _) (.cons (tvv.keep (.new hT)) .nil))⟩
        · obtain ⟨us, hu, tus⟩ := keep H2 A2 kk2 ar2 g2
          exact ⟨us, hu, by rw [tus.length, enumD_len]⟩
/-- pairs -/
def zipD (xs ys : List D) : List D := (xs.zip ys).map fun p => D.tup [p.1, p.2]
def iZip' (t : AW) : IW := fun env A Q => t env A fun ds A1 => ∃ d e xs ys, ds = [d, e] ∧ kv A1 d = some xs ∧ kv A1 e = some ys ∧ xs.length ≤ sizeLine ∧ Q (zipD xs ys) (fun A' => kv A' d = some xs ∧ kv A' e = some ys) A1
theorem zipFp (N : Nat) : ZipFp (N + 4) (N + 2) (N + 3) N (N + 1) :=
  have ne : ∀ i j : Nat, i ≠ j → ((N : Nat) + i : Nat) ≠ (N : Nat) + j := fun i j h => by omega
  ⟨ne 2 4 (by decide), ne 3 4 (by decide), ne 2 3 (by decide), ne 2 0 (by decide), ne 2 1 (by decide), ne 4 0 (by decide), ne 4 1 (by decide), ne 3 0 (by decide), ne 3 1 (by decide), ne 0 1 (by decide)⟩
theorem xizip {e e2 : Expr} {ta : AW} {p pos tpos : Pos} {elts : List Expr} {kk : Nat} (hg : Gl X "zip") (hm : X.mg "zip" = none) (ha : PA X [e, e2] (lA X ta))
    (hs : starEach [e, e2] X.env = (false, eval e X.env) :: starEach [e2] X.env := by rfl) (hpl : (backTo pos (starEach [e2] X.env)).any (·.1) = false := by rfl) :
    PI X (.Tuple elts kk tpos) (.Call (.Name "zip" p) [e, e2] [] pos) (lI X (iZip' ta)) := by
  refine ⟨fun pins s σ H R I h => ?_⟩
  obtain ⟨env, A, Q', er, ar, h2, k⟩ := h
  refine PyProof.Rows.Call_ (ld_blt I hg hm PyProof.Rows.boot_zip (PyProof.Rows.callWith_type1 (thn (lI.runA (pos := pos) ha I er ar h2) fun us s1 ⟨vs, H1, ds, A1, I1, r1, k1, ar1, tv1, q1⟩ => ?_) hs hpl))
  obtain ⟨d, e, xs, ys, rfl, e1, e2, hz, q1⟩ := q1
  cases tv1 with
  | cons t ts => cases ts with
    | cons t' ts' =>
      cases ts'
      cases r1 with
      | cons r rr => cases rr with
        | cons r' rr' =>
          cases rr'
          obtain ⟨kd, rfl, ⟨ws, hsrc, tws⟩, keep⟩ := knd_of r ar1 t e1
          obtain ⟨kd2, rfl, ⟨ws2, hsrc2, tws2⟩, keep2⟩ := knd_of r' ar1 t' e2
          obtain ⟨its, hst, hlen, hP⟩ := Knd.atH I1 hsrc
          obtain ⟨its2, hst2, hlen2, hP2⟩ := Knd.atH I1 hsrc2
          refine zip_begins2 (kd.begins its) (kd2.begins its2) hst hst2 fun h' hz' hTI hTO h1' h2' hsz hk => wpAny_pyIter_zip hz' ?_
          have I2 : Inv X pins σ H1 { s1 with heap := h' } := I1.kept (t' := s1.toks) hk
          refine ⟨s1.heap.objs.size + 4, [s1.heap.objs.size + 4, s1.heap.objs.size + 2, s1.heap.objs.size + 3, s1.heap.objs.size, s1.heap.objs.size + 1], _, _, H1, rfl, I2, turn_zipX kd kd2 (zipFp s1.heap.objs.size), ⟨hz', hTI, ⟨_, _, hTO⟩, Knd.it0 h1', Knd.it0 h2'⟩, fun c hcm => ?_, ?_⟩
          · have e' : c = s1.heap.objs.size + 4 ∨ c = s1.heap.objs.size + 2 ∨ c = s1.heap.objs.size + 3 ∨ c = s1.heap.objs.size ∨ c = s1.heap.objs.size + 1 := by simpa using hcm
            have hle : s1.heap.objs.size ≤ c := by
              rcases e' with z | z | z | z | z <;> rw [z] <;> first | exact Nat.le_add_right _ _ | exact Nat.le_refl _
            exact I1.fpOk hle (I1.hok.fresh hle)
          · have zl : (zipD xs ys).length = min xs.length ys.length := by simp [zipD]
            refine k _ _ _ _ _ q1 k1 ar1 ⟨by rw [zl]; omega, fun i x H2 A2 kk2 ar2 g2 hx => ?_, fun H2 A2 kk2 ar2 g2 => ?_⟩
            · unfold zipD at hx
              rw [List.getElem?_map] at hx
              cases ez : (xs.zip ys)[i]? with
              | none => rw [ez] at hx; cases hx
              | some y =>
                rw [ez] at hx
                cases hx
                obtain ⟨ex, ey⟩ := List.getElem?_zip_eq_some.mp ez
                obtain ⟨us, hu, tus⟩ := keep H2 A2 kk2 ar2 g2.1
                obtain ⟨us2, hu2, tus2⟩ := keep2 H2 A2 kk2 ar2 g2.2
                obtain ⟨v, hv, tvv⟩ := tus.get ex
                obtain ⟨v2, hv2, tvv2⟩ := tus2.get ey
                refine ⟨⟨us, us2, v, v2, hu, hu2, hv, hv2⟩, fun z H' hy => ?_⟩
                obtain ⟨T, x', y', rfl, hT, rfl, hy, hy2⟩ := hy
                have e5 := hy us hu
                have e6 := hy2 us2 hu2
                rw [hv] at e5; cases e5
                rw [hv2] at e6; cases e6
                exact ⟨.new hT, ar2.new hT, .tup (SqT.of upd_same) (.cons (tvv.keep (.new hT)) (.cons (tvv2.keep (.new hT)) .nil))⟩
            · obtain ⟨us, hu, tus⟩ := keep H2 A2 kk2 ar2 g2.1
              obtain ⟨us2, hu2, tus2⟩ := keep2 H2 A2 kk2 ar2 g2.2
              exact ⟨us, us2, hu, hu2, by rw [tus.length, tus2.length, zl]⟩
/-! a text, sign by sign -/
def iStr' (t : EW) : IW := fun env A Q => t env A fun d A1 => ∃ x, d = .str x ∧ x.length ≤ sizeLine ∧ Q (chars x) (fun _ => True) A1
theorem xistr {tg e : Expr} {t : EW} (he : PE X e (lE X t)) : PI X tg e (lI X (iStr' t)) := PI.imp (pi_str he) fun σ H R h => by
  obtain ⟨env, A, Q', er, ar, h2, k⟩ := h
  refine ⟨env, A, _, er, ar, h2, fun d A1 v H1 q1 k1 ar1 tv1 => ?_⟩
  obtain ⟨x, rfl, hz, q1⟩ := q1
  cases tv1
  refine ⟨x, rfl, k _ _ _ _ _ q1 k1 ar1 ⟨?_, fun i y H2 A2 kk2 ar2 g2 hx => ?_, fun H2 A2 kk2 ar2 g2 => ?_⟩⟩
  · unfold chars; rw [List.length_map]; exact hz
  · unfold chars at hx
    rw [List.getElem?_map, Array.getElem?_toList] at hx
    cases ec : x.cps[i]? with
    | none => rw [ec] at hx; cases hx
    | some c =>
      rw [ec] at hx
      cases hx
      refine ⟨(Array.getElem?_eq_some_iff.mp ec).1, fun z H' hy => ?_⟩
      obtain ⟨rfl, c', hc', rfl⟩ := hy
      rw [ec] at hc'; cases hc'
      exact ⟨.refl _, ar2, .str _⟩
  · show x.cps.size ≤ _
    unfold chars; rw [List.length_map]; simp
end
end TL

/-! TG: list comprehensions. -/
namespace TL
open PySem PySem.Spec L2
/-- the slots of the block's own names forgotten -/
def wipeE (env : ED) : List Nat → ED
  | [] => env
  | v :: vs => (wipeE env vs).set v none
theorem wipeE_length (env : ED) : ∀ vs, (wipeE env vs).length = env.length
  | [] => rfl
  | v :: vs => by show ((wipeE env vs).set v none).length = _; rw [List.length_set]; exact wipeE_length env vs
theorem wipeE_get {env : ED} {i : Nat} : ∀ {vs : List Nat}, i ∉ vs → (wipeE env vs)[i]? = env[i]?
  | [], _ => rfl
  | v :: vs, h => by
    show ((wipeE env vs).set v none)[i]? = _
    rw [List.getElem?_set_ne (fun e => h (by simp [e]))]
    exact wipeE_get fun e => h (by simp [e])
theorem wipeE_in {env : ED} {i : Nat} {d : D} : ∀ {vs : List Nat}, i ∈ vs → (wipeE env vs)[i]? ≠ some (some d)
  | v :: vs, h => by
    show ((wipeE env vs).set v none)[i]? ≠ _
    by_cases e : v = i
    · subst e
      by_cases hl : v < (wipeE env vs).length
      · rw [List.getElem?_set_self hl]; simp
      · rw [List.getElem?_eq_none (by simpa using Nat.le_of_not_lt hl)]; simp
    · rw [List.getElem?_set_ne e]
      exact wipeE_in (by rcases List.mem_cons.mp h with q | q; exact absurd q.symm e; exact q)
theorem wipe_in' {σ : L2.St} {i : Nat} : ∀ {vs : List Nat}, i ∈ vs → i < σ.length → (wipe σ vs)[i]? = some none
  | v :: vs, h, hl => by
    show ((wipe σ vs).set v none)[i]? = _
    by_cases e : v = i
    · subst e
      rw [List.getElem?_set_self (by rw [wipe_length]; exact hl)]
    · rw [List.getElem?_set_ne e]
      exact wipe_in' (by rcases List.mem_cons.mp h with q | q; exact absurd q.symm e; exact q) hl
theorem ER.wipe {K : PySem.W.Frag} {H : Hp} {σ : L2.St} {env : ED} (r : ER K H σ env) (vs : List Nat) : ER K H (wipe σ vs) (wipeE env vs) := by
  refine ⟨by rw [wipe_length, wipeE_length]; exact r.1, fun i d h => ?_⟩
  by_cases hi : i ∈ vs
  · exact absurd h (wipeE_in hi)
  · rw [wipeE_get hi] at h
    rw [wipe_out hi]
    exact r.2 i d h
theorem Off.wipe {vs us : List Nat} {σ σ2 : L2.St} (h : Off vs (wipe σ us) σ2) (hs : ∀ i ∈ vs, i ∈ us) : wipe σ2 us = wipe σ us := by
  apply List.ext_getElem?
  intro i
  have hl : σ2.length = σ.length := by rw [h.1, wipe_length]
  by_cases hi : i ∈ us
  · by_cases hb : i < σ.length
    · rw [wipe_in' hi (by rw [hl]; exact hb), wipe_in' hi hb]
    · rw [List.getElem?_eq_none (by rw [wipe_length, hl]; exact Nat.le_of_not_lt hb), List.getElem?_eq_none (by rw [wipe_length]; exact Nat.le_of_not_lt hb)]
  · rw [wipe_out hi, h.2 i (fun q => hi (hs i q)), wipe_out hi]
/-- the turns of a list comprehension; the list made so far stands at p -/
def lcGo (p : Addr) (G : SD → Prop) (g : GW) (tt : TW) (te : EW) (env0 : ED) : List D → SD → (List D → SD → Prop) → Prop
  | [], A, Q => G A ∧ ∃ acc, A p = some (.lst acc) ∧ Q acc A
  | d :: ds, A, Q => G A ∧ g d env0 A fun env1 A1 => tt env1 A1 fun b A2 => if b = true then te env1 A2 fun y A3 => ∃ acc, A3 p = some (.lst acc) ∧ acc.length < sizeLine ∧ lcGo p G g tt te env0 ds (upA A3 p (.lst (acc ++ [y]))) Q else lcGo p G g tt te env0 ds A2 Q
def tYesE : TW := fun _ A Q => Q true A
/-- a list comprehension, the list may be changed -/
def eLcM (w : IW) (g : GW) (tt : TW) (te : EW) (vs : List Nat) : EW := fun env A Q => w env A fun ds G A1 => ds.length ≤ sizeLine → ∀ p, A1 p = none → lcGo p G g tt te (wipeE env vs) ds (upA A1 p (.lst [])) fun _ A' => Q (.ref p) A'
/-- .. locked -/
def eLc (w : IW) (g : GW) (tt : TW) (te : EW) (vs : List Nat) : EW := fun env A Q => w env A fun ds G A1 => ds.length ≤ sizeLine → ∀ p, A1 p = none → lcGo p G g tt te (wipeE env vs) ds (upA A1 p (.lst [])) fun acc A' => Q (.lst acc) (drop A' p)
section
variable {X : Cx}
theorem lc_lift {wi : IW} {g : GW} {tt : TW} {te : EW} {ss vs : List Nat} (hs : ∀ i ∈ ss, i ∈ vs) {σ : L2.St} {H : Hp} {Q : VK} {env : ED} {A : SD} {Qf : Addr → List D → SD → Prop} (er : ER X.K H σ env) (ar : ARx X A H)
    (h2 : wi env A fun ds G A1 => ds.length ≤ sizeLine → ∀ p, A1 p = none → lcGo p G g tt te (wipeE env vs) ds (upA A1 p (.lst [])) (Qf p))
    (k : ∀ p acc A' H', Qf p acc A' → A' p = some (.lst acc) → KeepT H H' → ARx X A' H' → Q (.ref p) H') : tLc (lI X wi) (lG X ss g) (lT X tt) (lE X te) vs σ H Q := by
  refine ⟨env, A, _, er, ar, h2, fun ds G A1 H1 J q kk ar1 Y p hp => ?_⟩
  have q := q Y.len p (ar1.fresh hp)
  have k0 : KeepT H1 (upd H1 p (.lst [])) := .new hp
  refine ⟨fun i m H' => i + m = ds.length ∧ KeepT H1 H' ∧ ∃ A', ARx X A' H' ∧ lcGo p G g tt te (wipeE env vs) (ds.drop i) A' (Qf p), ⟨ds.length, by omega, k0, _, ar1.put (od := .lst []) k0 ⟨[], upd_same, .nil⟩, q⟩, ?_⟩
  rintro i m H' ⟨hm, kk', A', ar', q'⟩
  cases e : ds[i]? with
  | none =>
    have hl : ds.length ≤ i := List.getElem?_eq_none_iff.mp e
    have hi : i = ds.length := by omega
    subst hi
    rw [List.drop_length] at q'
    obtain ⟨g1, acc, ha, qf⟩ := q'
    exact .inl ⟨Y.stop H' A' kk' ar' g1, k p acc A' H' qf ha (kk.trans kk') ar'⟩
  | some d =>
    have hl : i < ds.length := (List.getElem?_eq_some_iff.mp e).1
    rw [drop_at e] at q'
    obtain ⟨g1, q'⟩ := q'
    obtain ⟨y1, y2⟩ := Y.more i d H' A' kk' ar' g1 e
    refine .inr ⟨y1, fun H2 => KeepT H1 H2 ∧ ∃ A2, ARx X A2 H2 ∧ lcGo p G g tt te (wipeE env vs) (ds.drop (i + 1)) A2 (Qf p), fun H2 h => ⟨m - 1, by omega, by omega, h.1, h.2⟩, fun x H2 hy => ?_⟩
    obtain ⟨kk2, ar2, tv2⟩ := y2 x H2 hy
    have er2 : ER X.K H2 (wipe σ vs) (wipeE env vs) := (((er.keep kk).keep kk').keep kk2).wipe vs
    refine ⟨d, wipeE env vs, A', _, tv2, er2, ar2, q', fun env3 A3 σ3 H3 q3 kk3 of3 er3 ar3 => ⟨of3.wipe hs, ?_⟩⟩
    have kB : KeepT H1 H3 := (kk'.trans kk2).trans kk3
    refine ⟨env3, A3, _, er3, ar3, q3, fun b A4 H4 q4 kk4 ar4 => ?_⟩
    cases b with
    | false => exact iteF ⟨kB.trans kk4, A4, ar4, by simpa using q4⟩
    | true =>
      refine iteT ⟨env3, A4, _, er3.keep kk4, ar4, by simpa using q4, fun y A5 v H5 q5 kk5 ar5 tv5 => ?_⟩
      obtain ⟨acc, ha, hz, q5⟩ := q5
      obtain ⟨ws, hw, tw⟩ := ar5 p _ ha
      have km : KeepT H5 (upd H5 p (.lst (ws ++ [v]))) := .mut hw trivial
      refine ⟨ws, hw, by rw [tw.length]; exact hz, ((kB.trans kk4).trans kk5).trans km, _, ar5.put (od := .lst (acc ++ [y])) km ⟨_, upd_same, (tw.append (.cons tv5 .nil)).keep km⟩, q5⟩
theorem xt0 : PTs X [] (lT X tYesE) := ⟨fun pins s σ H Q I h => pts_nil.run pins s σ H Q I (by
  obtain ⟨env, A, Q', er, ar, h2, k⟩ := h
  exact k true A H h2 (.refl H) ar)⟩
theorem xt1 {c : Expr} {t : TW} (h : PT X c (lT X t)) : PTs X [c] (lT X t) := pts_one h
variable {elt tg iter : Expr} {ifs : List Expr} {scope : Scope} {own : List (Str × Nat)} {pos : Pos} {wi : IW} {g : GW} {tt : TW} {te : EW} {ss : List Nat}
theorem xlcM (hc : X.calm = true) (hN : X.N.Nodup) (hi : PI X tg iter (lI X wi)) (ok : BlkOk X.N X.env.scope scope own) (hg : ∀ (s : Shared) (H : Hp) (C : Addr) (cl : List (Str × Addr)) (fp : List Addr), PG (X.blk s H scope (compEnvC scope cl C X.env) fp) tg (lG X ss g))
    (ht : ∀ (s : Shared) (H : Hp) (C : Addr) (cl : List (Str × Addr)) (fp : List Addr), PTs (X.blk s H scope (compEnvC scope cl C X.env) fp) ifs (lT X tt)) (he : ∀ (s : Shared) (H : Hp) (C : Addr) (cl : List (Str × Addr)) (fp : List Addr), PE (X.blk s H scope (compEnvC scope cl C X.env) fp) elt (lE X te))
    (hsub : ∀ i ∈ ss, i ∈ own.map (·.2)) (hs : ∀ x, foldedSetIterable iter X.env x = pure x := by intro _; rfl) : PE X (.ListComp elt [⟨tg, iter, ifs, 0⟩] scope pos) (lE X (eLcM wi g tt te (own.map (·.2)))) :=
  PE.imp (pe_lc hc hN hi ok hg ht he hs) fun σ H Q h => by
    obtain ⟨env, A, Q', er, ar, h2, k⟩ := h
    exact lc_lift (Qf := fun p _ A' => Q' (.ref p) A') hsub er ar h2 fun p acc A' H' q _ kk ar' => k _ _ _ _ q kk ar' (.ref p)
theorem frz_of {H : Hp} {Q : VK} {Q' : QD} {A' : SD} {H' : Hp} {p : Addr} {acc : List D} (q : Q' (.lst acc) (drop A' p)) (ha : A' p = some (.lst acc)) (kk : KeepT H H') (ar' : ARx X A' H') (k : ∀ d A' v H', Q' d A' → KeepT H H' → AR X.prog X.w X.K A' H' → TV X.K H' v d → Q v H') :
    ∃ p' xs, V.ref p = .ref p' ∧ H' p' = some (.lst xs) ∧ ∀ o, Q (.ref p) (upd H' p' (.frz o (.lst xs))) := by
  obtain ⟨ws, hw, tw⟩ := ar' p _ ha
  refine ⟨p, ws, rfl, hw, fun o => ?_⟩
  have km : KeepT H' (upd H' p (.frz o (.lst ws))) := .mut hw trivial
  exact k _ _ _ _ q (kk.trans km) (ar'.drop km) (.lst ⟨o, upd_same⟩ (tw.keep km))
theorem xlc (hc : X.calm = true) (hN : X.N.Nodup) (hi : PI X tg iter (lI X wi)) (ok : BlkOk X.N X.env.scope scope own) (hg : ∀ (s : Shared) (H : Hp) (C : Addr) (cl : List (Str × Addr)) (fp : List Addr), PG (X.blk s H scope (compEnvC scope cl C X.env) fp) tg (lG X ss g))
    (ht : ∀ (s : Shared) (H : Hp) (C : Addr) (cl : List (Str × Addr)) (fp : List Addr), PTs (X.blk s H scope (compEnvC scope cl C X.env) fp) ifs (lT X tt)) (he : ∀ (s : Shared) (H : Hp) (C : Addr) (cl : List (Str × Addr)) (fp : List Addr), PE (X.blk s H scope (compEnvC scope cl C X.env) fp) elt (lE X te))
    (hsub : ∀ i ∈ ss, i ∈ own.map (·.2)) (hs : ∀ x, foldedSetIterable iter X.env x = pure x := by intro _; rfl) : PE X (.ListComp elt [⟨tg, iter, ifs, 0⟩] scope pos) (lE X (eLc wi g tt te (own.map (·.2)))) :=
  PE.imp (PE.frz (pe_lc hc hN hi ok hg ht he hs)) fun σ H Q h => by
    obtain ⟨env, A, Q', er, ar, h2, k⟩ := h
    exact lc_lift (Qf := fun p acc A' => Q' (.lst acc) (drop A' p)) hsub er ar h2 fun p acc A' H' q ha kk ar' => frz_of q ha kk ar' k
/-- behind an assignment a list is locked -/
theorem PS.frz {st : Stmt} {t : TS} (h : PS X st t) : PS X st (fun D σ H => t { nx := fun σ' H1 => ∃ p xs, H1 p = some (.lst xs) ∧ ∀ o, D.nx σ' (upd H1 p (.frz o (.lst xs))), rt := D.rt, bk := D.bk, ct := D.ct } σ H) :=
  ⟨fun pins s σ H D I q => thn (h.run pins s σ H _ I q) fun f s1 hq => by
    cases f with
    | next =>
      obtain ⟨σ', H1, I1, p, xs, e2, q1⟩ := hq
      obtain ⟨o, I2⟩ := I1.lock e2 trivial
      exact ⟨σ', _, I2, q1 o⟩
    | brk => exact hq
    | cont => exact hq
    | ret u => exact hq⟩
variable {i : Nat} {y : Str} {py spos : Pos}
theorem xsetLcM (hc : X.calm = true) (hN : X.N.Nodup) (hy : X.N[i]? = some y) (hyl : X.env.scope.names.lookup y = some .local) (hsw : swapsWith (.ListComp elt [⟨tg, iter, ifs, 0⟩] scope pos) (some (.Name y py)) spos.line X.env = pure true)
    (hi : PI X tg iter (lI X wi)) (ok : BlkOk X.N X.env.scope scope own) (hg : ∀ (s : Shared) (H : Hp) (C : Addr) (cl : List (Str × Addr)) (fp : List Addr), PG (X.blk s H scope (compEnvC scope cl C X.env) fp) tg (lG X ss g))
    (ht : ∀ (s : Shared) (H : Hp) (C : Addr) (cl : List (Str × Addr)) (fp : List Addr), PTs (X.blk s H scope (compEnvC scope cl C X.env) fp) ifs (lT X tt)) (he : ∀ (s : Shared) (H : Hp) (C : Addr) (cl : List (Str × Addr)) (fp : List Addr), PE (X.blk s H scope (compEnvC scope cl C X.env) fp) elt (lE X te))
    (hsub : ∀ i ∈ ss, i ∈ own.map (·.2)) (hs : ∀ x, foldedSetIterable iter X.env x = pure x := by intro _; rfl) : PS X (.Assign [.Name y py] (.ListComp elt [⟨tg, iter, ifs, 0⟩] scope pos) spos) (lS X (sSet i (eLcM wi g tt te (own.map (·.2))))) :=
  PS.imp (ps_setLc hc hN hy hyl hsw hi ok hg ht he hs) fun D σ H h => by
    obtain ⟨env, A, D', er, ar, h2, k1, k2, k3, k4⟩ := h
    exact lc_lift (Qf := fun p _ A' => D'.nx (env.set i (some (.ref p))) A') hsub er ar h2 fun p acc A' H' q _ kk ar' => k1 _ _ _ _ q kk ((er.keep kk).set (.ref p)) ar'
theorem xsetLc (hc : X.calm = true) (hN : X.N.Nodup) (hy : X.N[i]? = some y) (hyl : X.env.scope.names.lookup y = some .local) (hsw : swapsWith (.ListComp elt [⟨tg, iter, ifs, 0⟩] scope pos) (some (.Name y py)) spos.line X.env = pure true)
    (hi : PI X tg iter (lI X wi)) (ok : BlkOk X.N X.env.scope scope own) (hg : ∀ (s : Shared) (H : Hp) (C : Addr) (cl : List (Str × Addr)) (fp : List Addr), PG (X.blk s H scope (compEnvC scope cl C X.env) fp) tg (lG X ss g))
    (ht : ∀ (s : Shared) (H : Hp) (C : Addr) (cl : List (Str × Addr)) (fp : List Addr), PTs (X.blk s H scope (compEnvC scope cl C X.env) fp) ifs (lT X tt)) (he : ∀ (s : Shared) (H : Hp) (C : Addr) (cl : List (Str × Addr)) (fp : List Addr), PE (X.blk s H scope (compEnvC scope cl C X.env) fp) elt (lE X te))
    (hsub : ∀ i ∈ ss, i ∈ own.map (·.2)) (hs : ∀ x, foldedSetIterable iter X.env x = pure x := by intro _; rfl) : PS X (.Assign [.Name y py] (.ListComp elt [⟨tg, iter, ifs, 0⟩] scope pos) spos) (lS X (sSet i (eLc wi g tt te (own.map (·.2))))) :=
  PS.imp (PS.frz (ps_setLc hc hN hy hyl hsw hi ok hg ht he hs)) fun D σ H h => by
    obtain ⟨env, A, D', er, ar, h2, k1, k2, k3, k4⟩ := h
    refine lc_lift (Qf := fun p acc A' => D'.nx (env.set i (some (.lst acc))) (drop A' p)) hsub er ar h2 fun p acc A' H' q ha kk ar' => ?_
    obtain ⟨ws, hw, tw⟩ := ar' p _ ha
    refine ⟨p, ws, hw, fun o => ?_⟩
    have km : KeepT H' (upd H' p (.frz o (.lst ws))) := .mut hw trivial
    exact k1 _ _ _ _ q (kk.trans km) ((er.keep (kk.trans km)).set (.lst ⟨o, upd_same⟩ (tw.keep km))) (ar'.drop km)
end
/-! ### a comprehension whose parts are functions -/
section
variable {p : Addr} {G : SD → Prop} {g : GW} {tt : TW} {te : EW} {env0 : ED}
/-- f d: the item for d, or none; St: what stands at every turn -/
theorem lcGo_of {St : SD → Prop} {A1 : SD} {ds : List D} {Q : List D → SD → Prop} (f : D → Option D) (hz : ds.length ≤ sizeLine) (hp : A1 p = none) (hG : ∀ acc, G (upA A1 p (.lst acc)))
    (hs : ∀ d ∈ ds, ∀ acc (Qy : D → SD → Prop) (Qn : SD → Prop), (match f d with | some y => Qy y (upA A1 p (.lst acc)) | none => Qn (upA A1 p (.lst acc))) → g d env0 (upA A1 p (.lst acc)) fun env1 A2 => tt env1 A2 fun b A3 => if b = true then te env1 A3 Qy else Qn A3)
    (hq : Q (ds.filterMap f) (upA A1 p (.lst (ds.filterMap f)))) : lcGo p G g tt te env0 ds (upA A1 p (.lst [])) Q := by
  have gen : ∀ (es : List D) (acc : List D), (∀ d ∈ es, d ∈ ds) → acc.length + es.length ≤ sizeLine → Q (acc ++ es.filterMap f) (upA A1 p (.lst (acc ++ es.filterMap f))) → lcGo p G g tt te env0 es (upA A1 p (.lst acc)) Q := by
    intro es
    induction es with
    | nil =>
      intro acc _ _ q
      exact ⟨hG acc, acc, upA_same, by simpa using q⟩
    | cons d es ih =>
      intro acc hm hz q
      refine ⟨hG acc, hs d (hm d (by simp)) acc _ _ ?_⟩
      cases e : f d with
      | none => exact ih acc (fun x hx => hm x (by simp [hx])) (by simp at hz; omega) (by simpa [e] using q)
      | some y =>
        refine ⟨acc, upA_same, by simp at hz; omega, ?_⟩
        rw [upA_upA]
        refine ih (acc ++ [y]) (fun x hx => hm x (by simp [hx])) (by simp at hz ⊢; omega) ?_
        have := q
        simp only [List.filterMap_cons, e] at this
        simpa using this
  exact gen ds [] (fun _ h => h) (by simpa using hz) (by simpa using hq)
end
end TL

/-! TH: subscripts, slices, stores, calls of defs and of built-ins. -/
namespace TL
open PySem PySem.Spec L2
section
variable {X : Cx} {pos : Pos} {a b : Expr} {ta tb : EW}
/-! ### a[i] -/
def rIdx : RD := fun x y A Q => ∃ i, y = .int i ∧ ((∃ ds d, qv A x = some ds ∧ atI ds i = some d ∧ Q d A) ∨ ∃ z c, x = .str z ∧ z.length ≤ sizeLine ∧ atI z.cps.toList i = some c ∧ Q (.str ⟨#[c]⟩) A)
theorem TVs.atI {K : PySem.W.Frag} {H : Hp} {vs : List V} {ds : List D} {i : Int} {d : D} (t : TVs K H vs ds) (h : atI ds i = some d) : ∃ v, L2.atI vs i = some v ∧ TV K H v d := by
  unfold L2.atI at h ⊢
  rw [t.length]
  cases e : ixN ds.length i with
  | none => rw [e] at h; cases h
  | some j =>
    rw [e] at h
    exact t.get h
theorem ix_any : IxR X (lR X rIdx) := by
  intro value slice pins s σ H vx vy v u Q I rx ry h hsub
  obtain ⟨x, y, A, Q', ar, tx, ty, ⟨i, rfl, h⟩, k⟩ := h
  cases ty
  rcases h with ⟨ds, d, e1, e2, q⟩ | ⟨z, c, rfl, hz, e2, q⟩
  · obtain ⟨p, vs, rfl, hq, tvs⟩ := qv_at ar tx e1
    obtain ⟨w, hw, tw⟩ := tvs.atI e2
    rcases hq with hq | hq
    · exact ix_list value slice pins s σ H _ _ v u Q I rx ry ⟨p, vs, i, w, rfl, rfl, hq, hw, k _ _ _ _ q (.refl _) ar tw⟩ hsub
    · exact ix_tup value slice pins s σ H _ _ v u Q I rx ry ⟨p, vs, i, w, rfl, rfl, hq, hw, k _ _ _ _ q (.refl _) ar tw⟩ hsub
  · cases tx
    exact ix_str value slice pins s σ H _ _ v u Q I rx ry ⟨z, i, c, rfl, rfl, hz, e2, k _ _ _ _ q (.refl _) ar (.str _)⟩ hsub
theorem xix {rd : RD} (hr : IxR X (lR X rd)) (ha : PE X a (lE X ta)) (hb : PE X b (lE X tb)) (hs : PlainIx b := by exact fun _ _ => rfl) : PE X (.Subscript a b pos) (lE X (eOp rd ta tb)) := PE.imp (pe_ix hr ha hb hs) fun _ _ _ h => h.two
/-! ### a[i:j] -/
def cutD {α : Type} (xs : List α) (lo hi : Option Int) : List α := (xs.drop (HT.sIx xs.length 0 lo)).take (HT.sIx xs.length xs.length hi - HT.sIx xs.length 0 lo)
theorem TVs.cut {K : PySem.W.Frag} {H : Hp} {vs : List V} {ds : List D} (t : TVs K H vs ds) (lo hi : Option Int) : TVs K H (cutV vs lo hi) (cutD ds lo hi) := by
  unfold cutV cutD
  rw [t.length]
  exact (t.drop _).take _
def rSl : D → Option Int → Option Int → SD → QD → Prop := fun x lo hi A Q => match x with
  | .tup ds => Q (.tup (cutD ds lo hi)) A
  | x => ∃ ds, lw A x = some ds ∧ Q (.lst (cutD ds lo hi)) A
def lSl (X : Cx) (rd : D → Option Int → Option Int → SD → QD → Prop) : V → Option Int → Option Int → Hp → VK → Prop := fun vx lo hi H Q => ∃ x A Q', ARx X A H ∧ TV X.K H vx x ∧ rd x lo hi A Q' ∧ ∀ d A' v H', Q' d A' → KeepT H H' → ARx X A' H' → TV X.K H' v d → Q v H'
theorem sl_any : SlR X (lSl X rSl) := by
  intro pins s σ H vx v vl vu lo hi sl Q I rx hs pl pu h
  obtain ⟨x, A, Q', ar, tx, h, k⟩ := h
  have lst : ∀ ds, lw A x = some ds → Q' (.lst (cutD ds lo hi)) A → ∃ T id, typeLookup (.type T) "__getitem__" = pure (some (.builtin id)) ∧ s.TypeIs v T ∧ wpAny (model X.prog X.w) X.A (getItem v (.ref sl)) (EP X pins σ Q) X.xe s := fun ds e q => by
    obtain ⟨p, vs, rfl, hq, t⟩ := lw_at ar tx e
    have hsq : SqL X.K H p vs := by
      rcases hq with hq | ⟨o, hq⟩
      · exact .inl (.inl hq)
      · exact .inl (.inr ⟨o, hq⟩)
    obtain ⟨T, id, h1, h2, h3⟩ := sl_list pins s σ H _ v vl vu lo hi sl (fun v H' => ∃ p', H p' = none ∧ v = .ref p' ∧ H' = upd H p' (.lst (cutV vs lo hi))) I rx hs pl pu ⟨p, vs, rfl, hsq, fun p' hp' => ⟨p', hp', rfl, rfl⟩⟩
    refine ⟨T, id, h1, h2, thn h3 fun u s1 ⟨v1, H1, I1, r1, p', hp', e1, e2⟩ => ?_⟩
    subst e1 e2
    exact MkL.fz ⟨p', hp', r1, I1⟩ ar (t.cut lo hi) k q
  cases x with
  | tup ds =>
    cases tx with
    | tup hq t =>
      refine sl_tupA pins s σ H _ v vl vu lo hi sl Q I rx hs pl pu ⟨_, _, rfl, hq, fun hw => ?_, fun hw p hp => ?_⟩
      · refine k _ _ _ _ h (.refl _) ar ?_
        have e : cutD ds lo hi = ds := by
          have h1 : HT.sIx ds.length 0 lo = 0 := by rw [← t.length]; exact hw.1
          have h2 : HT.sIx ds.length ds.length hi = ds.length := by rw [← t.length]; exact hw.2
          unfold cutD
          rw [h1, h2]
          simp
        rw [e]
        exact .tup hq t
      · exact k _ _ _ _ h (.new hp) (ar.new hp) (.tup (SqT.of upd_same) ((t.cut lo hi).keep (.new hp)))
  | _ => obtain ⟨ds, e, q⟩ := h; exact lst ds e q
abbrev OW := ED → SD → (Option Int → SD → Prop) → Prop
def lO0 (P : Program) (w : World) (K : PySem.W.Frag) (t : OW) : TO := fun σ H Q => ∃ env A Q', ER K H σ env ∧ AR P w K A H ∧ t env A Q' ∧ ∀ o A' H', Q' o A' → KeepT H H' → AR P w K A' H' → Q o H'
abbrev lO (X : Cx) : OW → TO := lO0 X.prog X.w X.K
def oNone : OW := fun _ A Q => Q none A
def oSome (t : EW) : OW := fun env A Q => t env A fun d A1 => ∃ i, d = .int i ∧ Q (some i) A1
theorem PO.imp {e : Option Expr} {t t' : TO} (h : PO X e t) (hi : ∀ σ H Q, t' σ H Q → t σ H Q) : PO X e t' := ⟨fun pins s σ H Q I q => h.run pins s σ H Q I (hi σ H Q q)⟩
theorem xon : PO X none (lO X oNone) := PO.imp po_none fun σ H Q h => by
  obtain ⟨env, A, Q', er, ar, h2, k⟩ := h
  exact k none A H h2 (.refl H) ar
theorem xos {e : Expr} {t : EW} (h : PE X e (lE X t)) : PO X (some e) (lO X (oSome t)) := PO.imp (po_some h) fun σ H Q h => by
  obtain ⟨env, A, Q', er, ar, h2, k⟩ := h
  refine ⟨env, A, _, er, ar, h2, fun d A1 v H1 q1 k1 ar1 tv1 => ?_⟩
  obtain ⟨i, rfl, q⟩ := q1
  cases tv1
  exact ⟨i, rfl, k _ _ _ q k1 ar1⟩
def eSl (t : EW) (lo hi : OW) : EW := fun env A Q => t env A fun x A1 => lo env A1 fun l A2 => hi env A2 fun u A3 => rSl x l u A3 Q
theorem xsl {lo hi : Option Expr} {tl th : OW} {p2 : Pos} (he : PE X a (lE X ta)) (hl : PO X lo (lO X tl)) (hu : PO X hi (lO X th)) : PE X (.Subscript a (.Slice lo hi none p2) pos) (lE X (eSl ta tl th)) :=
  PE.imp (pe_slice sl_any he hl hu) fun σ H Q h => by
    obtain ⟨env, A, Q', er, ar, h2, k⟩ := h
    refine ⟨env, A, _, er, ar, h2, fun x A1 v H1 q1 k1 ar1 tv1 => ?_⟩
    refine ⟨env, A1, _, er.keep k1, ar1, q1, fun l A2 H2 q2 k2 ar2 => ?_⟩
    refine ⟨env, A2, _, (er.keep k1).keep k2, ar2, q2, fun u A3 H3 q3 k3 ar3 => ?_⟩
    exact ⟨x, A3, Q', ar3, (tv1.keep k2).keep k3, q3, fun d A' v H' q kk ar' tv => k d A' v H' q (((k1.trans k2).trans k3).trans kk) ar' tv⟩
/-! ### o[i] = v -/
abbrev WD := D → D → D → SD → (SD → Prop) → Prop
def lSet (X : Cx) (rd : WD) : V → V → V → Hp → (Hp → Prop) → Prop := fun vo vi vx H Q => ∃ o i x A Q', ARx X A H ∧ TV X.K H vo o ∧ TV X.K H vi i ∧ TV X.K H vx x ∧ rd o i x A Q' ∧ ∀ A' H', Q' A' → KeepT H H' → ARx X A' H' → Q H'
def gSub' (to ti : EW) (rd : WD) : GW := fun d env A Q => to env A fun o A1 => ti env A1 fun i A2 => rd o i d A2 fun A3 => Q env A3
theorem xgsub {o i : Expr} {to ti : EW} {rd : WD} (ho : PE X o (lE X to)) (hi : PE X i (lE X ti)) (hs : PSet X (lSet X rd))
    (ha : ∀ v, assign (.Subscript o i pos) X.env v = (do let ov ← holding [v] (eval o X.env); let iv ← holding [v, ov] (eval i X.env); standAt pos; holding [v, ov, iv] (setItem ov iv v); release [v, ov, iv] []) := by intro _; rfl) : PG X (.Subscript o i pos) (lG X [] (gSub' to ti rd)) :=
  PG.imp (pg_sub ho hi hs ha) fun v σ H Q h => by
    obtain ⟨d, env, A, Q', tv, er, ar, h2, k⟩ := h
    refine ⟨env, A, _, er, ar, h2, fun x A1 v1 H1 q1 k1 ar1 tv1 => ?_⟩
    refine ⟨env, A1, _, er.keep k1, ar1, q1, fun y A2 v2 H2 q2 k2 ar2 tv2 => ?_⟩
    exact ⟨x, y, d, A2, _, ar2, tv1.keep k2, tv2, (tv.keep k1).keep k2, q2, fun A' H' q k3 ar' => k env A' σ H' q ((k1.trans k2).trans k3) (.refl _ _) (((er.keep k1).keep k2).keep k3) ar'⟩
def wLst : WD := fun o i x A Q => ∃ p n ds j, o = .ref p ∧ i = .int n ∧ A p = some (.lst ds) ∧ ixN ds.length n = some j ∧ Q (upA A p (.lst (ds.set j x)))
theorem st_lst : PSet X (lSet X wLst) := by
  intro pins s σ H vo vi vx ov iv u Q I ro ri rx h
  obtain ⟨o, i, x, A, Q', ar, to, ti, tx, ⟨p, n, ds, j, rfl, rfl, ha, hj, q⟩, k⟩ := h
  cases to
  cases ti
  obtain ⟨vs, hp, tvs⟩ := ar p _ ha
  have km : KeepT H (upd H p (.lst (vs.set j vx))) := .mut hp trivial
  exact set_list pins s σ H _ _ _ ov iv u Q I ro ri rx ⟨p, vs, n, j, rfl, rfl, hp, by rw [tvs.length]; exact hj, k _ _ q km (ar.put (od := .lst (ds.set j x)) km ⟨_, upd_same, (TVs.set tx j tvs).keep km⟩)⟩
/-! ### calls of defs -/
abbrev SpD := List D → SD → QD → Prop
def lSp0 (P : Program) (w : World) (K : PySem.W.Frag) (sp : SpD) : Sp := fun vs H Q _ => ∃ ds A Q', TVs K H vs ds ∧ AR P w K A H ∧ sp ds A Q' ∧ ∀ d A' v H', Q' d A' → KeepT H H' → AR P w K A' H' → TV K H' v d → Q v H'
def eCall (sp : SpD) (t : AW) : EW := fun env A Q => t env A fun ds A1 => sp ds A1 Q
variable {sp : SpD} {t : AW} {e : Expr} {es : List Expr} {x : Str} {p : Pos}
theorem lE.call {r : List V → Hp → VK → Prop} (hr : ∀ vs H Q ds A Q', TVs X.K H vs ds → ARx X A H → sp ds A Q' → (∀ d A' v H', Q' d A' → KeepT H H' → ARx X A' H' → TV X.K H' v d → Q v H') → r vs H Q) {σ : L2.St} {H : Hp} {Q : VK} (h : lE X (eCall sp t) σ H Q) : lA X t σ H fun vs H1 => r vs H1 Q := by
  obtain ⟨env, A, Q', er, ar, h2, k⟩ := h
  refine ⟨env, A, _, er, ar, h2, fun ds A1 vs H1 q1 k1 ar1 tv1 => ?_⟩
  exact hr vs H1 Q ds A1 Q' tv1 ar1 q1 fun d A' v H' q k2 => k d A' v H' q (k1.trans k2)
theorem xcall {k : Nat} {f : Addr} {fd : FuncData} {ps : List Str} (F : FnOk X.prog X.w X.K X.mg X.base CX0 k f fd ps (lSp0 X.prog X.w X.K sp)) (hr : Room k X.A) (hg : Gl X x) (hm : X.mg x = some (.ref f)) (hk : PySem.W.keepIn X.K (.ref f) = true) (hb : Binds X.K fd ps [])
    (ha : PA X (e :: es) (lA X t)) (hdb : (x == ("__debug__" : Str)) = false := by decide) (he : starEach (e :: es) X.env = (false, eval e X.env) :: starEach es X.env := by rfl) (hpl : (backTo pos (starEach es X.env)).any (·.1) = false := by rfl) :
    PE X (.Call (.Name x p) (e :: es) [] pos) (lE X (eCall sp t)) := PE.imp (pe_call F hr hg hm hk hb .nil pass0 ha hdb he hpl) fun σ H Q h => by
  refine lE.call (r := fun vs H1 Q => lSp0 X.prog X.w X.K sp (vs ++ []) H1 Q E0) (fun vs H Q ds A Q' tv ar q k => ?_) h
  rw [List.append_nil]
  exact ⟨ds, A, Q', tv, ar, q, k⟩
theorem xcall0 {k : Nat} {f : Addr} {fd : FuncData} {ps : List Str} (F : FnOk X.prog X.w X.K X.mg X.base CX0 k f fd ps (lSp0 X.prog X.w X.K sp)) (hr : Room k X.A) (hg : Gl X x) (hm : X.mg x = some (.ref f)) (hk : PySem.W.keepIn X.K (.ref f) = true) (hb : Binds X.K fd ps [])
    (hdb : (x == ("__debug__" : Str)) = false := by decide) :
    PE X (.Call (.Name x p) [] [] pos) (lE X (eCall sp aNil)) := PE.imp (pe_call0 F hr hg hm hk hb .nil pass0 hdb) fun σ H Q h => by
  obtain ⟨env, A, Q', er, ar, h2, k⟩ := h
  exact ⟨[], A, Q', .nil, ar, h2, k⟩
/-- the defaults fill up -/
def eCallD (sp : SpD) (dds : List D) (t : AW) : EW := fun env A Q => t env A fun ds A1 => sp (ds ++ dds) A1 Q
theorem xcallD {k : Nat} {f : Addr} {fd : FuncData} {ps : List Str} {ds : List Value} {dvs : List V} {dds : List D} (F : FnOk X.prog X.w X.K X.mg X.base CX0 k f fd ps (lSp0 X.prog X.w X.K sp)) (hr : Room k X.A) (hg : Gl X x) (hm : X.mg x = some (.ref f)) (hk : PySem.W.keepIn X.K (.ref f) = true) (hb : Binds X.K fd ps ds) (hd : Vals dvs ds) (htd : ∀ H, TVs X.K H dvs dds)
    (ha : PA X (e :: es) (lA X t)) (hdb : (x == ("__debug__" : Str)) = false := by decide) (he : starEach (e :: es) X.env = (false, eval e X.env) :: starEach es X.env := by rfl) (hpl : (backTo pos (starEach es X.env)).any (·.1) = false := by rfl) :
    PE X (.Call (.Name x p) (e :: es) [] pos) (lE X (eCallD sp dds t)) := PE.imp (pe_call F hr hg hm hk hb hd pass0 ha hdb he hpl) fun σ H Q h => by
  obtain ⟨env, A, Q', er, ar, h2, k⟩ := h
  refine ⟨env, A, _, er, ar, h2, fun ds A1 vs H1 q1 k1 ar1 tv1 => ?_⟩
  exact ⟨ds ++ dds, A1, Q', tv1.append (htd H1), ar1, q1, fun d A' v H' q k2 => k d A' v H' q (k1.trans k2)⟩
/-- keywords: g puts the positional values and the keywords' in the parameters' order -/
def eCallK (sp : SpD) (n m : Nat) (g : List D → List D → List D) (t tk : AW) : EW := fun env A Q => t env A fun ds A1 => tk env A1 fun es A2 => ds.length = n ∧ es.length = m ∧ sp (g ds es) A2 Q
theorem PK.imp {kws : List Keyword} {t t' : TA} (h : PK X kws t) (hi : ∀ σ H Q, t' σ H Q → t σ H Q) : PK X kws t' := ⟨fun pos pins s σ H Q I q => h.run pos pins s σ H Q I (hi σ H Q q)⟩
theorem xk0 : PK X [] (lA X aNil) := PK.imp pk_nil fun σ H Q h => by
  obtain ⟨env, A, Q', er, ar, h2, k⟩ := h
  exact k [] A [] H h2 (.refl H) ar .nil
theorem xk {e : Expr} {kws : List Keyword} {t : EW} {r : AW} {nm : Option Str} {kpos : Pos} (ha : PE X e (lE X t)) (hr : PK X kws (lA X r)) : PK X (⟨nm, e, kpos⟩ :: kws) (lA X (aCons t r)) :=
  PK.imp (pk_cons ha hr) fun σ H Q h => by
    obtain ⟨env, A, Q', er, ar, h2, k⟩ := h
    refine ⟨env, A, _, er, ar, h2, fun d A1 v H1 q1 k1 ar1 tv1 => ?_⟩
    refine ⟨env, A1, _, er.keep k1, ar1, q1, fun ds A2 vs H2 q2 k2 ar2 tv2 => ?_⟩
    exact k _ A2 _ H2 q2 (k1.trans k2) ar2 (.cons (tv1.keep k2) tv2)
theorem xcallK {k n : Nat} {f : Addr} {fd : FuncData} {ps ks : List Str} {kws : List Keyword} {tk : AW} {gU : List Value → List Value → List Value} {gV : List V → List V → List V} {g : List D → List D → List D} (F : FnOk X.prog X.w X.K X.mg X.base CX0 k f fd ps (lSp0 X.prog X.w X.K sp)) (hr : Room k X.A) (hg : Gl X x) (hm : X.mg x = some (.ref f)) (hk : PySem.W.keepIn X.K (.ref f) = true)
    (hb : KBn X.K fd ps n ks gU gV) (htv : ∀ H vs zs ds es, TVs X.K H vs ds → TVs X.K H zs es → TVs X.K H (gV vs zs) (g ds es)) (ha : PA X (e :: es) (lA X t)) (hkw : PK X kws (lA X tk)) (hall : (backToKw pos (keywordEach kws X.env)).all (·.1.isSome) = true := by rfl) (hks : (backToKw pos (keywordEach kws X.env)).filterMap (·.1) = ks := by rfl)
    (hdb : (x == ("__debug__" : Str)) = false := by decide) (he : starEach (e :: es) X.env = (false, eval e X.env) :: starEach es X.env := by rfl)
    (hpl : ((backTo pos (starEach (e :: es) X.env)).any (·.1) || (backToKw pos (keywordEach kws X.env)).any (·.1.isNone)) = false := by rfl) :
    PE X (.Call (.Name x p) (e :: es) kws pos) (lE X (eCallK sp n ks.length g t tk)) := PE.imp (pe_callN F hr hg hm hk hb pass0 ha hkw hall hks hdb he hpl) fun σ H Q h => by
  obtain ⟨env, A, Q', er, ar, h2, k⟩ := h
  refine ⟨env, A, _, er, ar, h2, fun ds A1 vs H1 q1 k1 ar1 tv1 => ?_⟩
  refine ⟨env, A1, _, er.keep k1, ar1, q1, fun es A2 zs H2 q2 k2 ar2 tv2 => ?_⟩
  exact ⟨by rw [tv1.length]; exact q2.1, by rw [tv2.length]; exact q2.2.1, g ds es, A2, Q', htv _ _ _ _ _ (tv1.keep k2) tv2, ar2, q2.2.2, fun d A' v H' q k3 => k d A' v H' q ((k1.trans k2).trans k3)⟩
end
/-! ### a def by its body -/
def startD (n : Nat) (ds : List D) : ED := ds.map some ++ List.replicate (n - ds.length) none
theorem ER.start {K : PySem.W.Frag} {H : Hp} {vs : List V} {ds : List D} (N : List Str) (t : TVs K H vs ds) : ER K H (L2.start N vs) (startD N.length ds) := by
  unfold L2.start startD
  refine ⟨by simp [t.length], fun i d h => ?_⟩
  rw [List.getElem?_append] at h ⊢
  rw [List.length_map] at h ⊢
  rw [t.length]
  by_cases hi : i < ds.length
  · rw [if_pos hi] at h ⊢
    rw [List.getElem?_map] at h ⊢
    cases e : ds[i]? with
    | none => rw [e] at h; cases h
    | some d' =>
      rw [e] at h
      cases h
      obtain ⟨v, hv, tv⟩ := t.get e
      exact ⟨v, by rw [hv]; rfl, tv⟩
  · rw [if_neg hi] at h
    rw [List.getElem?_replicate] at h
    split at h <;> cases h
section
variable {P : Program} {w : World} {K : PySem.W.Frag} {mg : Str → Option Value} {base : Heap}
theorem def_ok {x qual : Str} {params : Arguments} {body : List Stmt} {scope : Scope} {dvs : List V} {kws : List (Str × V)} {f : Addr} {fd : FuncData} {N ps : List Str} {k : Nat} {sp : SpD} {W : SW} (F : FunD K x qual params body scope dvs kws f fd) (S : FnScope N ps scope)
    (hw : ∀ ds A Q, sp ds A Q → ds.length = ps.length ∧ W { nx := fun _ A' => Q .non A', rt := Q } (startD N.length ds) A)
    (hbody : ∀ (cdv : Value) (A : Around) (outer : List Env) (s : Shared) (H : Hp) (E : XK), Room k (A.deeper (PyProof.Rows.envOfC qual scope s.heap.objs.size f cdv)) → PSs (cxOf CX0 P w K mg base N qual scope f cdv A outer s H E).nox body (lS0 P w K W)) : FnOk P w K mg base CX0 (k + 1) f fd ps (lSp0 P w K sp) := by
  refine F.ok S (fun vs H Q E h => ?_) fun cdv A outer s H vs Q E hr h => ?_
  · obtain ⟨ds, A, Q', tv, ar, h, k⟩ := h
    rw [tv.length]
    exact (hw ds A Q' h).1
  · obtain ⟨ds, A', Q', tv, ar, h, kk⟩ := h
    refine ⟨_, PSs.nox (hbody cdv A outer s H E hr), ?_⟩
    exact ⟨_, A', _, ER.start N tv, ar, (hw ds A' Q' h).2, fun env' A2 σ' H' q k1 er ar2 => kk _ _ _ _ q k1 ar2 .non, fun d A2 v H' q k1 ar2 tv2 => kk _ _ _ _ q k1 ar2 tv2, fun _ _ _ _ h => h.elim, fun _ _ _ _ h => h.elim⟩
end
end TL

/-! TI: built-ins over trees. -/
namespace TL
open PySem PySem.Spec L2
section
variable {X : Cx} {x : Str} {p pos : Pos} {e : Expr} {es : List Expr} {t : AW} {id T : String} {rd : List D → SD → QD → Prop}
/-- f(e, ..), f a built-in function -/
theorem xblt (hc : CallR X (.builtin id) (lCall X rd)) (hg : Gl X x) (hm : X.mg x = none) (hv : bootBuiltins x = some (.builtin id)) (ha : PA X (e :: es) (lA X t)) (hn : x ≠ "__name__" := by decide) (hdb : (x == ("__debug__" : Str)) = false := by decide)
    (hs : starEach (e :: es) X.env = (false, eval e X.env) :: starEach es X.env := by rfl) (hpl : (backTo pos (starEach es X.env)).any (·.1) = false := by rfl) : PE X (.Call (.Name x p) (e :: es) [] pos) (lE X (eCall rd t)) :=
  PE.imp (pe_callB hc hg hm hv ha hn hdb hs hpl) fun σ H Q h => lE.call (r := fun vs H1 Q => lCall X rd vs H1 Q) (fun vs H Q ds A Q' tv ar q k => ⟨ds, A, Q', ar, tv, q, k⟩) h
theorem xbty (hc : CallR X (.type T) (lCall X rd)) (hg : Gl X x) (hm : X.mg x = none) (hv : bootBuiltins x = some (.type T)) (ha : PA X (e :: es) (lA X t)) (hn : x ≠ "__name__" := by decide) (hdb : (x == ("__debug__" : Str)) = false := by decide)
    (hs : starEach (e :: es) X.env = (false, eval e X.env) :: starEach es X.env := by rfl) (hpl : (backTo pos (starEach es X.env)).any (·.1) = false := by rfl) : PE X (.Call (.Name x p) (e :: es) [] pos) (lE X (eCall rd t)) :=
  PE.imp (pe_callTy hc hg hm hv ha hn hdb hs hpl) fun σ H Q h => lE.call (r := fun vs H1 Q => lCall X rd vs H1 Q) (fun vs H Q ds A Q' tv ar q k => ⟨ds, A, Q', ar, tv, q, k⟩) h
/-! ### len, abs, max, min, sum, all, any -/
def rLen : List D → SD → QD → Prop := fun ds A Q => ∃ d, ds = [d] ∧ ((∃ xs, qv A d = some xs ∧ Q (.int (xs.length : Nat)) A) ∨ ∃ z, d = .str z ∧ z.length ≤ sizeLine ∧ Q (.int (z.length : Nat)) A)
theorem c_len : CallR X (.builtin "len") (lCall X rLen) := by
  intro pins s σ H vs us Q I r h
  obtain ⟨ds, A, Q', ar, tv, ⟨d, rfl, h⟩, k⟩ := h
  cases tv with
  | cons t ts =>
    cases ts
    rcases h with ⟨xs, e, q⟩ | ⟨z, rfl, hz, q⟩
    · obtain ⟨a, ws, rfl, hq, tw⟩ := qv_at ar t e
      refine call_len pins s σ H _ us Q I r ⟨.ref a, xs.length, rfl, ?_, k _ _ _ _ q (.refl _) ar (.int _)⟩
      rcases hq with hq | hq
      · exact .inl ⟨ws, hq, tw.length.symm⟩
      · exact .inr ⟨ws, hq, tw.length.symm⟩
    · cases t
      exact call_len pins s σ H _ us Q I r ⟨.str z, z.length, rfl, ⟨hz, rfl⟩, k _ _ _ _ q (.refl _) ar (.int _)⟩
def rAbs : List D → SD → QD → Prop := fun ds A Q => ∃ i, ds = [.int i] ∧ Q (.int (if i < 0 then -i else i)) A
theorem c_abs : CallR X (.builtin "abs") (lCall X rAbs) := by
  intro pins s σ H vs us Q I r h
  obtain ⟨ds, A, Q', ar, tv, ⟨i, rfl, q⟩, k⟩ := h
  cases tv with
  | cons t ts =>
    cases ts
    cases t
    exact call_abs pins s σ H _ us Q I r ⟨i, rfl, k _ _ _ _ q (.refl _) ar (.int _)⟩
def rMax2 : List D → SD → QD → Prop := fun ds A Q => ∃ i j, ds = [.int i, .int j] ∧ Q (.int (max i j)) A
def rMin2 : List D → SD → QD → Prop := fun ds A Q => ∃ i j, ds = [.int i, .int j] ∧ Q (.int (min i j)) A
theorem c_max2 (hc : X.calm = true) : CallR X (.builtin "max") (lCall X rMax2) := by
  intro pins s σ H vs us Q I r h
  obtain ⟨ds, A, Q', ar, tv, ⟨i, j, rfl, q⟩, k⟩ := h
  cases tv with
  | cons t ts => cases ts with
    | cons t2 ts =>
      cases ts
      cases t
      cases t2
      refine call_max2 hc pins s σ H _ us Q I r ⟨i, j, rfl, k _ _ _ _ q (.refl _) ar ?_⟩
      have e : (if j > i then j else i) = max i j := by rw [Int.max_def]; split <;> split <;> omega
      rw [e]
      exact .int _
theorem c_min2 (hc : X.calm = true) : CallR X (.builtin "min") (lCall X rMin2) := by
  intro pins s σ H vs us Q I r h
  obtain ⟨ds, A, Q', ar, tv, ⟨i, j, rfl, q⟩, k⟩ := h
  cases tv with
  | cons t ts => cases ts with
    | cons t2 ts =>
      cases ts
      cases t
      cases t2
      refine call_min2 hc pins s σ H _ us Q I r ⟨i, j, rfl, k _ _ _ _ q (.refl _) ar ?_⟩
      have e : (if j < i then j else i) = min i j := by rw [Int.min_def]; split <;> split <;> omega
      rw [e]
      exact .int _
theorem TVs.intsV {K : PySem.W.Frag} {H : Hp} : ∀ {ns : List Int} {vs : List V}, TVs K H vs (ns.map D.int) → vs = ns.map V.int
  | [], _, .nil => rfl
  | n :: ns, _, .cons t ts => by
    cases t
    rw [TVs.intsV ts, List.map_cons]
/-- max, min of a list of whole numbers -/
def rMaxL : List D → SD → QD → Prop := fun ds A Q => ∃ d, ∃ ns : List Int, ds = [d] ∧ lv A d = some (ns.map .int) ∧ 0 < ns.length ∧ ∀ m, m ∈ ns → (∀ y ∈ ns, y ≤ m) → Q (.int m) A
def rMinL : List D → SD → QD → Prop := fun ds A Q => ∃ d, ∃ ns : List Int, ds = [d] ∧ lv A d = some (ns.map .int) ∧ 0 < ns.length ∧ ∀ m, m ∈ ns → (∀ y ∈ ns, m ≤ y) → Q (.int m) A
theorem c_maxL (hc : X.calm = true) : CallR X (.builtin "max") (lCall X rMaxL) := by
  intro pins s σ H vs us Q I r h
  obtain ⟨ds, A, Q', ar, tv, ⟨d, ns, rfl, e, hl, q⟩, k⟩ := h
  cases tv with
  | cons t ts =>
    cases ts
    obtain ⟨a, ws, rfl, hq, tw⟩ := lv_sq ar t e
    rw [tw.intsV] at hq
    exact cr_max hc pins s σ H _ us Q I r ⟨a, ns, rfl, hq, hl, fun m h1 h2 => k _ _ _ _ (q m h1 h2) (.refl _) ar (.int _)⟩
theorem c_minL (hc : X.calm = true) : CallR X (.builtin "min") (lCall X rMinL) := by
  intro pins s σ H vs us Q I r h
  obtain ⟨ds, A, Q', ar, tv, ⟨d, ns, rfl, e, hl, q⟩, k⟩ := h
  cases tv with
  | cons t ts =>
    cases ts
    obtain ⟨a, ws, rfl, hq, tw⟩ := lv_sq ar t e
    rw [tw.intsV] at hq
    exact cr_min hc pins s σ H _ us Q I r ⟨a, ns, rfl, hq, hl, fun m h1 h2 => k _ _ _ _ (q m h1 h2) (.refl _) ar (.int _)⟩
/-- sum of a list or a tuple of whole numbers -/
def rSum' : List D → SD → QD → Prop := fun ds A Q => ∃ d, ∃ ns : List Int, ds = [d] ∧ qv A d = some (ns.map .int) ∧ Q (.int ns.sum) A
theorem sum_tup {prog : Program} {w : World} {A : Around} {E : Value → Shared → Prop} {s : Shared} {l : Addr} {its : List Value} {ns : List Int} {Q : Value → Shared → Prop} (hh : A.handled = none) (hl : s.heap.IsTuple l its.toArray) (hi : PyProof.Rows.IntsAre its ns)
    (h : ∀ h' tk t', (∀ b o, s.heap.get? b = some o → h'.get? b = some o) → Q (.int ns.sum t') { s with heap := h', toks := tk }) : wpAny (model prog w) A (call (.builtin "sum") [.ref l]) Q E s := by
  obtain ⟨xs, e⟩ := hi.allInts.items
  have hn : numsOf (intItems xs).toList = ns := by rw [← e]; exact hi.numsOf
  rw [nums_intItems] at hn
  rw [e] at hl
  refine PySem.W.ktm_sumG hh hl fun h' tk t' hk => ?_
  have := h h' tk t' hk
  rw [preSum_eq, List.take_of_length_le (by simp), hn]; exact this
theorem c_sum (hc : X.calm = true) : CallR X (.builtin "sum") (lCall X rSum') := by
  intro pins s σ H vs us Q I r h
  obtain ⟨ds, A, Q', ar, tv, ⟨d, ns, rfl, e, q⟩, k⟩ := h
  cases tv with
  | cons t ts =>
    cases ts
    obtain ⟨a, ws, rfl, hq, tw⟩ := qv_at ar t e
    rw [tw.intsV] at hq
    rcases hq with hq | hq
    · exact cr_sum hc pins s σ H _ us Q I r ⟨a, ns, rfl, hq, k _ _ _ _ q (.refl _) ar (.int _)⟩
    · obtain ⟨its, rv, hl, _⟩ := I.tuple hq
      rw [L2.Vals.ref1 r]
      exact sum_tup (I.ok.hd hc) hl (L2.Vals.ints rv) fun h' tk t' hk => ⟨.int _, H, I.kept hk, ⟨_, rfl⟩, k _ _ _ _ q (.refl _) ar (.int _)⟩
theorem TVs.blsV {K : PySem.W.Frag} {H : Hp} : ∀ {ns : List Bool} {vs : List V}, TVs K H vs (ns.map D.bl) → vs = ns.map V.bl
  | [], _, .nil => rfl
  | n :: ns, _, .cons t ts => by
    cases t
    rw [TVs.blsV ts, List.map_cons]
def rAll' : List D → SD → QD → Prop := fun ds A Q => ∃ d, ∃ bs : List Bool, ds = [d] ∧ lv A d = some (bs.map .bl) ∧ Q (.bl (bs.all fun b => b)) A
def rAny' : List D → SD → QD → Prop := fun ds A Q => ∃ d, ∃ bs : List Bool, ds = [d] ∧ lv A d = some (bs.map .bl) ∧ Q (.bl (bs.any fun b => b)) A
theorem c_all (hc : X.calm = true) : CallR X (.builtin "all") (lCall X rAll') := by
  intro pins s σ H vs us Q I r h
  obtain ⟨ds, A, Q', ar, tv, ⟨d, ns, rfl, e, q⟩, k⟩ := h
  cases tv with
  | cons t ts =>
    cases ts
    obtain ⟨a, ws, rfl, hq, tw⟩ := lv_sq ar t e
    rw [tw.blsV] at hq
    exact cr_all hc pins s σ H _ us Q I r ⟨a, ns, rfl, hq, k _ _ _ _ q (.refl _) ar (.bl _)⟩
theorem c_any (hc : X.calm = true) : CallR X (.builtin "any") (lCall X rAny') := by
  intro pins s σ H vs us Q I r h
  obtain ⟨ds, A, Q', ar, tv, ⟨d, ns, rfl, e, q⟩, k⟩ := h
  cases tv with
  | cons t ts =>
    cases ts
    obtain ⟨a, ws, rfl, hq, tw⟩ := lv_sq ar t e
    rw [tw.blsV] at hq
    exact cr_any hc pins s σ H _ us Q I r ⟨a, ns, rfl, hq, k _ _ _ _ q (.refl _) ar (.bl _)⟩
/-! ### tuple(x), list(x), int(x), str(x) -/
def rTup : List D → SD → QD → Prop := fun ds A Q => ∃ d xs, ds = [d] ∧ qv A d = some xs ∧ Q (.tup xs) A
theorem c_tup : CallR X (.type "tuple") (lCall X rTup) := by
  intro pins s σ H vs us Q I r h
  obtain ⟨ds, A, Q', ar, tv, ⟨d, xs, rfl, e, q⟩, k⟩ := h
  cases tv with
  | cons t ts =>
    cases ts
    obtain ⟨a, ws, rfl, hq, tw⟩ := qv_at ar t e
    refine call_tuple_of pins s σ H _ us Q I r ⟨a, ws, rfl, ?_⟩
    rcases hq with hq | hq
    · exact .inl ⟨hq, fun l hl => k _ _ _ _ q (.new hl) (ar.new hl) (.tup (SqT.of upd_same) (tw.keep (.new hl)))⟩
    · exact .inr ⟨hq, k _ _ _ _ q (.refl _) ar (.tup hq tw)⟩
/-- list(x): a new list, locked -/
def rList : List D → SD → QD → Prop := fun ds A Q => ∃ d xs, ds = [d] ∧ qv A d = some xs ∧ Q (.lst xs) A
theorem c_list : CallR X (.type "list") (lCall X rList) := by
  intro pins s σ H vs us Q I r h
  obtain ⟨ds, A, Q', ar, tv, ⟨d, xs, rfl, e, q⟩, k⟩ := h
  cases tv with
  | cons t ts =>
    cases ts
    obtain ⟨a, ws, rfl, hq, tw⟩ := qv_at ar t e
    exact thn (call_list_of pins s σ H _ us (fun v H' => ∃ l, H l = none ∧ v = .ref l ∧ H' = upd H l (.lst ws)) I r ⟨a, ws, rfl, hq, fun l hl => ⟨l, hl, rfl, rfl⟩⟩) fun u s1 ⟨v1, H1, I1, r1, l, hl, e1, e2⟩ => by
      subst e1 e2
      exact MkL.fz ⟨l, hl, r1, I1⟩ ar tw k q
def rInt1 : List D → SD → QD → Prop := fun ds A Q => (∃ i, ds = [.int i] ∧ Q (.int i) A) ∨ ∃ k, ds = [.bl k] ∧ Q (.int (if k then 1 else 0)) A
theorem c_int : CallR X (.type "int") (lCall X rInt1) := by
  intro pins s σ H vs us Q I r h
  obtain ⟨ds, A, Q', ar, tv, h, k⟩ := h
  rcases h with ⟨i, rfl, q⟩ | ⟨b, rfl, q⟩
  · cases tv with
    | cons t ts =>
      cases ts
      cases t
      exact call_int1 pins s σ H _ us Q I r (.inl ⟨i, rfl, k _ _ _ _ q (.refl _) ar (.int _)⟩)
  · cases tv with
    | cons t ts =>
      cases ts
      cases t
      exact call_int1 pins s σ H _ us Q I r (.inr ⟨b, rfl, k _ _ _ _ q (.refl _) ar (.int _)⟩)
/-! ### isinstance -/
/-- a tree's class -/
def tyD (A : SD) : D → String
  | .non => "NoneType" | .bl _ => "bool" | .int _ => "int" | .str _ => "str" | .tup _ => "tuple" | .lst _ => "list" | .scr _ => "list"
  | .ref p => match A p with
    | some (.lst _) => "list"
    | _ => ""
theorem tyX_of {A : SD} {H : Hp} {v : V} {d : D} (ar : ARx X A H) (tv : TV X.K H v d) (h : tyD A d ≠ "") : TyX X.K H v (.type (tyD A d)) := by
  cases tv with
  | non => exact .base .non
  | bl b => exact .base (.bl b)
  | int i => exact .base (.int i)
  | str x => exact .base (.str x)
  | tup hq t =>
    rcases hq with (hq | ⟨o, hq⟩) | ⟨o, its, n, e, c, _⟩
    · exact .base (.tup hq)
    · exact .fTuple hq
    · exact .kTuple e c
  | lst hq t =>
    obtain ⟨o, hq⟩ := hq
    exact .base (.frz hq)
  | scr hq =>
    rcases hq with ⟨o, hq⟩ | ⟨o, its, n, e, c, _⟩
    · exact .base (.frz hq)
    · exact .kList e c
  | ref a =>
    cases e : A a with
    | none => simp [tyD, e] at h
    | some o =>
      cases o with
      | lst ds =>
        obtain ⟨vs, h1, _⟩ := ar a _ e
        have : tyD A (.ref a) = "list" := by simp [tyD, e]
        rw [this]
        exact .base (.lst h1)
      | _ => simp [tyD, e] at h
def eIsi (t : EW) (T : String) : EW := fun env A Q => t env A fun d A1 => tyD A1 d ≠ "" ∧ ∃ b, kitB (tyD A1 d) T = some b ∧ Q (.bl b) A1
theorem xisi {e : Expr} {te : EW} {p p2 pos : Pos} {x cn : Str} {T : String} (hg : Gl X x) (hm : X.mg x = none) (hv : bootBuiltins x = some (.builtin "isinstance")) (hgc : Gl X cn) (hmc : X.mg cn = none) (hvc : bootBuiltins cn = some (.type T)) (he : PE X e (lE X te))
    (hn : x ≠ "__name__" := by decide) (hdb : (x == ("__debug__" : Str)) = false := by decide) (hnc : cn ≠ "__name__" := by decide) (hdc : (cn == ("__debug__" : Str)) = false := by decide)
    (hs1 : starEach [e, .Name cn p2] X.env = (false, eval e X.env) :: starEach [.Name cn p2] X.env := by rfl) (hpl : (backTo pos (starEach [.Name cn p2] X.env)).any (·.1) = false := by rfl) (hs2 : starEach [.Name cn p2] X.env = (false, eval (.Name cn p2) X.env) :: starEach [] X.env := by rfl) :
    PE X (.Call (.Name x p) [e, .Name cn p2] [] pos) (lE X (eIsi te T)) :=
  PE.imp (pe_callB call_isi hg hm hv (pa_cons he (pa_cons (pe_bltn (v := .ty T) hgc hmc hvc rfl hnc hdc) pa_nil hs2) hs1) hn hdb hs1 hpl) fun σ H Q h => by
    obtain ⟨env, A, Q', er, ar, h2, k⟩ := h
    refine ⟨env, A, _, er, ar, h2, fun d A1 v H1 q1 k1 ar1 tv1 => ?_⟩
    obtain ⟨hne, b, hb, q⟩ := q1
    exact ⟨v, .ty T, _, _, b, rfl, .ty T, tyX_of ar1 tv1 hne, kit_ty hb, k _ _ _ _ q k1 ar1 (.bl _)⟩
end
end TL

/-! TJ: dicts with tuple keys. -/
namespace TL
open PySem PySem.Spec L2
/-! ### trees as keys -/
theorem toKey_inj : ∀ (d e : D) (k : NestedKey), toKey d = some k → toKey e = some k → d = e := by
  have big : ∀ n : Nat, ∀ (d e : D) (k : NestedKey), sizeOf d < n → toKey d = some k → toKey e = some k → d = e := by
    intro n
    induction n with
    | zero => intro d e k h; omega
    | succ n ih =>
      have all : ∀ (ds es : List D) (ks : List NestedKey), sizeOf ds < n + 1 → toKeys ds = some ks → toKeys es = some ks → ds = es := by
        intro ds
        induction ds with
        | nil =>
          intro es ks _ h1 h2
          cases es with
          | nil => rfl
          | cons e es =>
            simp only [toKeys] at h1 h2
            cases h1
            split at h2 <;> simp at h2
        | cons d ds ihd =>
          intro es ks hs h1 h2
          cases es with
          | nil =>
            simp only [toKeys] at h1 h2
            cases h2
            split at h1 <;> simp at h1
          | cons e es =>
            simp only [toKeys] at h1 h2
            split at h1
            · rename_i k1 ks1 a1 a2
              split at h2
              · rename_i k2 ks2 b1 b2
                cases h1
                cases h2
                simp at hs
                rw [ih d e _ (by omega) a1 b1, ihd es _ (by omega) a2 b2]
              · cases h2
            · cases h1
      intro d e k hs h1 h2
      cases d with
      | tup ds =>
        cases e with
        | tup es =>
          simp only [toKey, Option.map_eq_some_iff] at h1 h2
          obtain ⟨k1, a1, rfl⟩ := h1
          obtain ⟨k2, b1, b2⟩ := h2
          cases b2
          simp at hs
          rw [all ds es _ (by omega) a1 b1]
        | _ => simp only [toKey, Option.map_eq_some_iff] at h1 h2 <;> obtain ⟨k1, a1, rfl⟩ := h1 <;> simp at h2
      | int i => cases e <;> simp [toKey] at h1 h2 <;> subst h1 <;> simp_all
      | str i => cases e <;> simp [toKey] at h1 h2 <;> subst h1 <;> simp_all
      | non => cases e <;> simp [toKey] at h1 h2 <;> subst h1 <;> simp_all
      | _ => simp [toKey] at h1
  exact fun d e k => big (sizeOf d + 1) d e k (by omega)
section
variable {X : Cx} {pins : List (Addr × Obj)} {σ : L2.St} {H : Hp} {s : Shared}
theorem nest_all (I : Inv X pins σ H s) : ∀ {ds : List D} {vs : List V} {us : List Value} {ks : List NestedKey}, (∀ d ∈ ds, ∀ v u k, TV X.K H v d → RelV v u → toKey d = some k → NestedIs s.heap k u) → TVs X.K H vs ds → Vals vs us → toKeys ds = some ks → NestedAll s.heap ks us
  | [], _, _, ks, _, .nil, .nil, h => by
    simp only [toKeys] at h
    cases h
    exact .nil
  | d :: ds, _, _, ks, f, .cons t ts, .cons r rs, h => by
    simp only [toKeys] at h
    split at h
    · rename_i k1 ks1 a1 a2
      cases h
      exact .cons (f d (by simp) _ _ _ t r a1) (nest_all I (fun d' hd => f d' (by simp [hd])) ts rs a2)
    · cases h
theorem nest_is (I : Inv X pins σ H s) : ∀ (d : D) (v : V) (u : Value) (k : NestedKey), TV X.K H v d → RelV v u → toKey d = some k → NestedIs s.heap k u
  | .int i, _, u, k, .int _, r, h => by
    simp only [toKey] at h
    cases h
    obtain ⟨t, rfl⟩ := r
    exact .int i t
  | .str x, _, u, k, .str _, r, h => by
    simp only [toKey] at h
    cases h
    obtain ⟨t, rfl⟩ := r
    exact .text x t
  | .non, _, u, k, .non, r, h => by
    simp only [toKey] at h
    cases h
    cases r
    exact .none
  | .tup ds, _, u, k, .tup hq t, r, h => by
    simp only [toKey, Option.map_eq_some_iff] at h
    obtain ⟨ks, h, rfl⟩ := h
    cases r
    obtain ⟨its, rv, ⟨o, e1, e2, n, e3⟩, hz⟩ := I.tuple hq
    exact .tup e1 e2 e3 (nest_all I (fun d hd v u k => nest_is I d v u k) t (by simpa using rv) h)
theorem key_is (I : Inv X pins σ H s) {a : Addr} {d : D} {k : NestedKey} (t : TV X.K H (.ref a) d) (h : toKey d = some k) (ok : keyOk d = true) : (nestedKind X.prog X.w).is s.heap k a := by
  refine ⟨nest_is I d _ _ k t rfl h, ?_⟩
  unfold keyOk at ok
  split at ok
  · rw [h] at ok
    simpa using ok
  · cases ok
theorem keyOk_some {d : D} (h : keyOk d = true) : ∃ k, toKey d = some k := by
  unfold keyOk at h
  split at h
  · split at h
    · exact ⟨_, by assumption⟩
    · cases h
  · cases h
theorem keyOk_ref {v : V} {d : D} (t : TV X.K H v d) (h : keyOk d = true) : ∃ a, v = .ref a := by
  cases t with
  | tup _ _ => exact ⟨_, rfl⟩
  | _ => simp [keyOk] at h
end
/-! ### the dict as a list of pairs -/
section
variable {κ : Type} [DecidableEq κ]
def valD {β : Type} (kvs : List (κ × β)) (k : κ) : Option β := (kvs.find? fun kv => decide (kv.1 = k)).map (·.2)
def putD {β : Type} (kvs : List (κ × β)) (k : κ) (v : β) : List (κ × β) := if (valD kvs k).isSome then kvs.map (fun kv => if kv.1 = k then (kv.1, v) else kv) else kvs ++ [(k, v)]
def delD {β : Type} (kvs : List (κ × β)) (k : κ) : List (κ × β) := kvs.filter fun kv => decide (kv.1 ≠ k)
end
abbrev RelK (K : PySem.W.Frag) (H : Hp) : D × D → NestedKey × Addr × V → Prop := fun kv x => toKey kv.1 = some x.1 ∧ keyOk kv.1 = true ∧ TV K H (.ref x.2.1) kv.1 ∧ TV K H x.2.2 kv.2
abbrev RelN : NestedKey × Addr × V → NestedKey × Addr × Value → Prop := fun x y => x.1 = y.1 ∧ x.2.1 = y.2.1 ∧ RelV x.2.2 y.2.2
def valN {β : Type} (es : List (NestedKey × Addr × β)) (k : NestedKey) : Option (Addr × β) := (es.find? fun x => decide (x.1 = k)).map (·.2)
def putN {β : Type} (es : List (NestedKey × Addr × β)) (k : NestedKey) (a : Addr) (v : β) : List (NestedKey × Addr × β) := if (valN es k).isSome then es.map (fun x => if x.1 = k then (x.1, x.2.1, v) else x) else es ++ [(k, a, v)]
def delN {β : Type} (es : List (NestedKey × Addr × β)) (k : NestedKey) : List (NestedKey × Addr × β) := es.filter fun x => decide (x.1 ≠ k)
section
variable {K : PySem.W.Frag} {H : Hp}
theorem RelK.eq_iff {kv : D × D} {x : NestedKey × Addr × V} (r : RelK K H kv x) {d : D} {k : NestedKey} (h : toKey d = some k) : decide (kv.1 = d) = decide (x.1 = k) := by
  by_cases e : kv.1 = d
  · have : x.1 = k := by
      have := r.1
      rw [e, h] at this
      exact (Option.some.inj this).symm
    rw [decide_eq_true e, decide_eq_true this]
  · have : ¬ x.1 = k := fun q => e (toKey_inj _ _ k (q ▸ r.1) h)
    rw [decide_eq_false e, decide_eq_false this]
theorem find_k {d : D} {k : NestedKey} (h : toKey d = some k) : ∀ {kvs : List (D × D)} {es : List (NestedKey × Addr × V)}, Paired (RelK K H) kvs es →
    (kvs.find? (fun kv => decide (kv.1 = d)) = none ∧ es.find? (fun x => decide (x.1 = k)) = none) ∨ ∃ kv x, kvs.find? (fun kv => decide (kv.1 = d)) = some kv ∧ es.find? (fun x => decide (x.1 = k)) = some x ∧ RelK K H kv x
  | _, _, .nil => .inl ⟨rfl, rfl⟩
  | kv :: kvs, x :: es, .cons r t => by
    rw [List.find?_cons, List.find?_cons, r.eq_iff h]
    cases e : decide (x.1 = k) with
    | true => exact .inr ⟨kv, x, rfl, rfl, r⟩
    | false => exact find_k h t
theorem val_k {d : D} {k : NestedKey} (h : toKey d = some k) {kvs : List (D × D)} {es : List (NestedKey × Addr × V)} (r : Paired (RelK K H) kvs es) :
    (valD kvs d = none ∧ valN es k = none) ∨ ∃ y a v, valD kvs d = some y ∧ valN es k = some (a, v) ∧ TV K H v y := by
  rcases find_k h r with ⟨h1, h2⟩ | ⟨kv, x, h1, h2, h3⟩
  · exact .inl ⟨by simp [valD, h1], by simp [valN, h2]⟩
  · exact .inr ⟨kv.2, x.2.1, x.2.2, by simp [valD, h1], by simp [valN, h2], h3.2.2.2⟩
theorem map_k {d : D} {k : NestedKey} (h : toKey d = some k) {y : D} {v : V} (tv : TV K H v y) : ∀ {kvs : List (D × D)} {es : List (NestedKey × Addr × V)}, Paired (RelK K H) kvs es →
    Paired (RelK K H) (kvs.map fun kv => if kv.1 = d then (kv.1, y) else kv) (es.map fun x => if x.1 = k then (x.1, x.2.1, v) else x)
  | _, _, .nil => .nil
  | kv :: kvs, x :: es, .cons r t => by
    rw [List.map_cons, List.map_cons]
    refine .cons ?_ (map_k h tv t)
    have e := r.eq_iff h
    by_cases q : kv.1 = d
    · have q' : x.1 = k := by
        rw [decide_eq_true q] at e
        exact of_decide_eq_true e.symm
      rw [if_pos q, if_pos q']
      exact ⟨r.1, r.2.1, r.2.2.1, tv⟩
    · have q' : ¬ x.1 = k := by
        rw [decide_eq_false q] at e
        exact of_decide_eq_false e.symm
      rw [if_neg q, if_neg q']
      exact r
theorem snoc_p {α β : Type} {F : α → β → Prop} {x : α} {y : β} (r : F x y) : ∀ {as : List α} {bs : List β}, Paired F as bs → Paired F (as ++ [x]) (bs ++ [y])
  | _, _, .nil => .cons r .nil
  | _, _, .cons q t => .cons q (snoc_p r t)
theorem put_k {d : D} {k : NestedKey} (h : toKey d = some k) (ok : keyOk d = true) {y : D} {v : V} {a : Addr} (ta : TV K H (.ref a) d) (tv : TV K H v y) {kvs : List (D × D)} {es : List (NestedKey × Addr × V)} (r : Paired (RelK K H) kvs es) :
    Paired (RelK K H) (putD kvs d y) (putN es k a v) := by
  unfold putD putN
  rcases val_k h r with ⟨h1, h2⟩ | ⟨z, b, u, h1, h2, h3⟩
  · rw [h1, h2]
    exact snoc_p (F := RelK K H) (x := (d, y)) (y := (k, a, v)) ⟨h, ok, ta, tv⟩ r
  · rw [h1, h2]
    exact map_k h tv r
theorem del_k {d : D} {k : NestedKey} (h : toKey d = some k) : ∀ {kvs : List (D × D)} {es : List (NestedKey × Addr × V)}, Paired (RelK K H) kvs es → Paired (RelK K H) (delD kvs d) (delN es k)
  | _, _, .nil => .nil
  | kv :: kvs, x :: es, .cons r t => by
    have ih := del_k h t
    have e := r.eq_iff h
    unfold delD delN at ih ⊢
    rw [List.filter_cons, List.filter_cons]
    by_cases q : kv.1 = d
    · have q' : x.1 = k := by
        rw [decide_eq_true q] at e
        exact of_decide_eq_true e.symm
      simpa [q, q'] using ih
    · have q' : ¬ x.1 = k := by
        rw [decide_eq_false q] at e
        exact of_decide_eq_false e.symm
      simp only [q, q', ne_eq, not_false_eq_true, decide_true, if_true]
      exact .cons r ih
theorem val_n {k : NestedKey} : ∀ {es : List (NestedKey × Addr × V)} {xs : List (NestedKey × Addr × Value)}, Paired RelN es xs → (valN es k = none ∧ atKey xs k = none) ∨ ∃ a v u, valN es k = some (a, v) ∧ atKey xs k = some (a, u) ∧ RelV v u
  | _, _, .nil => .inl ⟨rfl, rfl⟩
  | x :: es, y :: xs, .cons r t => by
    have ih := val_n (k := k) t
    unfold valN atKey at ih ⊢
    rw [List.find?_cons, List.find?_cons, ← r.1]
    cases e : decide (x.1 = k) with
    | true => exact .inr ⟨x.2.1, x.2.2, y.2.2, rfl, by simp [r.2.1], r.2.2⟩
    | false => exact ih
theorem put_n {k : NestedKey} {a : Addr} {v : V} {u : Value} (rv : RelV v u) {es : List (NestedKey × Addr × V)} {xs : List (NestedKey × Addr × Value)} (r : Paired RelN es xs) : Paired RelN (putN es k a v) (storedH xs k a u) := by
  unfold putN storedH
  rcases val_n (k := k) r with ⟨h1, h2⟩ | ⟨b, w, z, h1, h2, h3⟩
  · rw [h1, h2]
    exact snoc_p (F := RelN) (x := (k, a, v)) (y := (k, a, u)) ⟨rfl, rfl, rv⟩ r
  · rw [h1, h2]
    simp only [Option.isSome_some, if_true]
    clear h1 h2
    induction r with
    | nil => exact .nil
    | cons q t ih =>
      rw [List.map_cons, List.map_cons]
      refine .cons ?_ ih
      unfold putAt
      rename_i x0 y0 _ _
      by_cases e : x0.1 = k
      · rw [if_pos e, if_pos (q.1 ▸ e)]
        exact ⟨q.1, q.2.1, rv⟩
      · rw [if_neg e, if_neg (q.1 ▸ e)]
        exact q
theorem del_n {k : NestedKey} {es : List (NestedKey × Addr × V)} {xs : List (NestedKey × Addr × Value)} (r : Paired RelN es xs) : Paired RelN (delN es k) (withoutH xs k) := by
  unfold delN withoutH
  induction r with
  | nil => exact .nil
  | cons q t ih =>
    rw [List.filter_cons, List.filter_cons, ← q.1]
    split
    · exact .cons q ih
    · exact ih
end
theorem Paired.len {α β : Type} {F : α → β → Prop} {as : List α} {bs : List β} (h : Paired F as bs) : as.length = bs.length := Paired.length h
section
variable {X : Cx} {pins : List (Addr × Obj)} {σ : L2.St} {H : Hp} {s : Shared} {A : SD}
/-- the pairs of the dict, walked or not -/
def dv (A : SD) (p : Addr) : Option (List (D × D)) := match A p with
  | some (.dct kvs) => some kvs
  | some (.dctL kvs) => some kvs
  | _ => none
theorem dv_at (I : Inv X pins σ H s) (ar : ARx X A H) {p : Addr} {kvs : List (D × D)} (h : dv A p = some kvs) : ∃ es xs, (H p = some (.ext (RawN X.prog X.w p es)) ∨ ∃ o, H p = some (.frz o (.ext (RawN X.prog X.w p es)))) ∧ Paired (RelK X.K H) kvs es ∧ Paired RelN es xs ∧ (p == sysModules) = false ∧
    s.heap.DictOfH (nestedKind X.prog X.w) p xs := by
  have key : ∀ es, RawN X.prog X.w p es s.heap → Paired (RelK X.K H) kvs es → ∃ xs, Paired RelN es xs ∧ (p == sysModules) = false ∧ s.heap.DictOfH (nestedKind X.prog X.w) p xs := by
    intro es raw rel
    obtain ⟨hd, xs, rx, o, ea, ep, h1, h2, h3, h4, h5⟩ := raw
    refine ⟨xs, rx, hd, o, ea, ep, h1, h2, h3, h4, fun y hy => ?_, h5⟩
    have go : ∀ {kvs : List (D × D)} {es : List (NestedKey × Addr × V)} {xs : List (NestedKey × Addr × Value)}, Paired (RelK X.K H) kvs es → Paired RelN es xs → ∀ y ∈ xs, (nestedKind X.prog X.w).is s.heap y.1 y.2.1 := by
      intro kvs es xs r1
      induction r1 generalizing xs with
      | nil =>
        intro r2 y hy
        cases r2
        cases hy
      | cons q t ih =>
        intro r2 y hy
        cases r2 with
        | cons q2 t2 =>
          rcases List.mem_cons.mp hy with e | hy
          · subst e
            rw [← q2.1, ← q2.2.1]
            exact key_is I q.2.2.1 q.1 q.2.1
          · exact ih t2 y hy
    exact go rel rx y hy
  unfold dv at h
  split at h
  · rename_i kvs' e
    cases h
    obtain ⟨es, h1, h2⟩ := ar p _ e
    obtain ⟨raw, _⟩ := I.hok p _ h1
    obtain ⟨xs, a1, a2, a3⟩ := key es raw h2
    exact ⟨es, xs, .inl h1, h2, a1, a2, a3⟩
  · rename_i kvs' e
    cases h
    obtain ⟨o, es, h1, h2⟩ := ar p _ e
    obtain ⟨_, raw, _⟩ := I.hok p _ h1
    obtain ⟨xs, a1, a2, a3⟩ := key es raw h2
    exact ⟨es, xs, .inr ⟨o, h1⟩, h2, a1, a2, a3⟩
  · cases h
theorem raw_ok {P : Program} {w : World} {H' : Hp} {h' : Heap} {p : Addr} {es : List (NestedKey × Addr × V)} {xs : List (NestedKey × Addr × Value)} (hd : (p == sysModules) = false) (rx : Paired RelN es xs) (hm : h'.DictOfH (nestedKind P w) p xs) : ObjOk P w H' h' p (.ext (RawN P w p es)) := by
  obtain ⟨o, ea, ep, h1, h2, h3, h4, h5, h6⟩ := hm
  refine ⟨⟨hd, xs, rx, o, ea, ep, h1, h2, h3, h4, h6⟩, ⟨o, h1⟩, fun g1 g2 raw k => ?_⟩
  obtain ⟨hd, xs, rx, o, ea, ep, h1, h2, h3, h4, h6⟩ := raw
  exact ⟨hd, xs, rx, o, ea, ep, k o h1, h2, h3, h4, h6⟩
theorem room8 (hu : X.A.units + 64 < cLine) : (nestedKind X.prog X.w).room X.A.in1 := by
  show X.A.units + 1 + 8 < cLine
  omega
/-! k in d, k not in d -/
noncomputable def rInDct : RD := fun x y A Q => ∃ p kvs, y = .ref p ∧ dv A p = some kvs ∧ keyOk x = true ∧ Q (.bl (valD kvs x).isSome) A
noncomputable def rNotInDct : RD := fun x y A Q => ∃ p kvs, y = .ref p ∧ dv A p = some kvs ∧ keyOk x = true ∧ Q (.bl (!(valD kvs x).isSome)) A
theorem isSome_k {kvs : List (D × D)} {es : List (NestedKey × Addr × V)} {xs : List (NestedKey × Addr × Value)} {d : D} {k : NestedKey} (h : toKey d = some k) (r : Paired (RelK X.K H) kvs es) (rx : Paired RelN es xs) : (atKey xs k).isSome = (valD kvs d).isSome := by
  rcases val_k h r with ⟨h1, h2⟩ | ⟨y, a, v, h1, h2, h3⟩
  · rcases val_n (k := k) rx with ⟨q1, q2⟩ | ⟨b, v', u, q1, q2, q3⟩
    · rw [h1, q2]; rfl
    · rw [h2] at q1; cases q1
  · rcases val_n (k := k) rx with ⟨q1, q2⟩ | ⟨b, v', u, q1, q2, q3⟩
    · rw [h2] at q1; cases q1
    · rw [h1, q2]; rfl
theorem o_inDct (hu : X.A.units + 64 < cLine) : OpR X (compareOp .In) (lR X rInDct) := by
  intro pins s σ H vx vy v u Q I rx ry h
  obtain ⟨x, y, A, Q', ar, tx, ty, ⟨p, kvs, rfl, e, ok, q⟩, k⟩ := h
  cases ty
  cases ry
  obtain ⟨es, xs, hH, r1, r2, hd, hm⟩ := dv_at I ar e
  obtain ⟨ky, hk⟩ := keyOk_some ok
  obtain ⟨a, rfl⟩ := keyOk_ref tx ok
  cases rx
  refine in_keyed (room8 hu) (key_is I tx hk ok) hd ⟨xs, hm, rfl⟩ ?_
  rw [valueAt_pairsH, Option.isSome_map, isSome_k hk r1 r2]
  exact ⟨.bl _, H, I.tok _, rfl, k _ _ _ _ q (.refl _) ar (.bl _)⟩
theorem o_notInDct (hu : X.A.units + 64 < cLine) : OpR X (compareOp .NotIn) (lR X rNotInDct) := by
  intro pins s σ H vx vy v u Q I rx ry h
  obtain ⟨x, y, A, Q', ar, tx, ty, ⟨p, kvs, rfl, e, ok, q⟩, k⟩ := h
  cases ty
  cases ry
  obtain ⟨es, xs, hH, r1, r2, hd, hm⟩ := dv_at I ar e
  obtain ⟨ky, hk⟩ := keyOk_some ok
  obtain ⟨a, rfl⟩ := keyOk_ref tx ok
  cases rx
  refine notIn_keyed (room8 hu) (key_is I tx hk ok) hd ⟨xs, hm, rfl⟩ ?_
  rw [valueAt_pairsH, Option.isSome_map, isSome_k hk r1 r2]
  exact ⟨.bl _, H, I.tok _, rfl, k _ _ _ _ q (.refl _) ar (.bl _)⟩
/-! d[k] = v -/
noncomputable def wDct : WD := fun o i x A Q => ∃ p kvs, o = .ref p ∧ A p = some (.dct kvs) ∧ keyOk i = true ∧ kvs.length < sizeLine ∧ Q (upA A p (.dct (putD kvs i x)))
theorem dct_put (I : Inv X pins σ H s) (ar : ARx X A H) {p : Addr} {kvs : List (D × D)} (e : A p = some (.dct kvs)) {a : Addr} {d x : D} {vx : V} {u : Value} (ta : TV X.K H (.ref a) d) (ok : keyOk d = true) (tx : TV X.K H vx x) (rx : RelV vx u) (hu : X.A.units + 64 < cLine) (hz : kvs.length < sizeLine)
    {Q : Unit → Shared → Prop} {E : Value → Shared → Prop} (hq : ∀ s' H', Inv X pins σ H' s' → KeepT H H' → ARx X (upA A p (.dct (putD kvs d x))) H' → Q () s') : wpAny (model X.prog X.w) X.A (setItem (.ref p) (.ref a) u) Q E s := by
  obtain ⟨es, xs, hH, r1, r2, hd, hm⟩ := dv_at I ar (show dv A p = some kvs by simp [dv, e])
  have hH : H p = some (.ext (RawN X.prog X.w p es)) := by
    obtain ⟨es', h1, h2⟩ := ar p _ e
    rcases hH with hH | ⟨o, hH⟩
    · exact hH
    · rw [h1] at hH; cases hH
  obtain ⟨ky, hk⟩ := keyOk_some ok
  refine wpAny_setItem_heap (room8 hu) (key_is I ta hk ok) hm (fun h' hm' hs => ?_) (by have l1 := Paired.len r1; have l2 := Paired.len r2; omega)
  have km : KeepT H (upd H p (.ext (RawN X.prog X.w p (putN es ky a vx)))) := .mut hH trivial
  refine hq _ _ (d_write I (by rw [hH]; exact trivial) hs (by obtain ⟨o, _, _, h1, _⟩ := hm'; exact ⟨o, h1⟩) (raw_ok hd (put_n rx r2) hm')) km (ar.put km ⟨_, upd_same, ?_⟩)
  exact (put_k hk ok ta tx r1).mapQ fun p q z => ⟨z.1, z.2.1, z.2.2.1.keep km, z.2.2.2.keep km⟩
theorem st_dct (hu : X.A.units + 64 < cLine) : PSet X (lSet X wDct) := by
  intro pins s σ H vo vi vx ov iv u Q I ro ri rx h
  obtain ⟨o, i, x, A, Q', ar, to, ti, tx, ⟨p, kvs, rfl, e, ok, hz, q⟩, k⟩ := h
  cases to
  cases ro
  obtain ⟨a, rfl⟩ := keyOk_ref ti ok
  cases ri
  exact dct_put I ar e ti ok tx rx hu hz fun s' H' I' kk ar' => ⟨H', I', k _ _ q kk ar'⟩
/-! d[k] -/
noncomputable def rGetDct : RD := fun x y A Q => ∃ p kvs d, x = .ref p ∧ dv A p = some kvs ∧ keyOk y = true ∧ valD kvs y = some d ∧ Q d A
theorem get_dct (I : Inv X pins σ H s) (ar : ARx X A H) {p a : Addr} {kvs : List (D × D)} {d y : D} (e : dv A p = some kvs) (ta : TV X.K H (.ref a) y) (ok : keyOk y = true) (hv : valD kvs y = some d) (hu : X.A.units + 64 < cLine) {Q : Value → Shared → Prop} {E : Value → Shared → Prop}
    (hq : ∀ s' v u, Inv X pins σ H s' → RelV v u → TV X.K H v d → Q u s') : wpAny (model X.prog X.w) X.A (getItem (.ref p) (.ref a)) Q E s := by
  obtain ⟨es, xs, hH, r1, r2, hd, hm⟩ := dv_at I ar e
  obtain ⟨ky, hk⟩ := keyOk_some ok
  rcases val_k hk r1 with ⟨h1, h2⟩ | ⟨z, b, v, h1, h2, h3⟩
  · rw [hv] at h1; cases h1
  · rw [hv] at h1; cases h1
    rcases val_n (k := ky) r2 with ⟨q1, q2⟩ | ⟨b', v', u, q1, q2, q3⟩
    · rw [h2] at q1; cases q1
    · rw [h2] at q1; cases q1
      exact wpAny_getItem_heap (room8 hu) (key_is I ta hk ok) hm q2 (hq _ v u (I.tok _) q3 h3)
theorem xget_dct {o i : Expr} {to ti : EW} {pos : Pos} (hu : X.A.units + 64 < cLine) (ho : PE X o (lE X to)) (hi : PE X i (lE X ti)) (hs : NoSl i := by exact fun _ _ => rfl) : PE X (.Subscript o i pos) (lE X (eOp rGetDct to ti)) := by
  refine ⟨fun pins s σ H Q I h => ?_⟩
  have h := lE.two h
  refine subD_of PySem.F.slot_dict_getitem.lookup hs (thn (ho.run pins s σ H _ I h) fun u s1 ⟨x, H1, I1, rx, q1⟩ => thn (hi.run pins s1 σ H1 _ I1 q1) fun iv s2 ⟨y, H2, I2, ry, q2⟩ => ?_)
  obtain ⟨x', y', A, Q', ar, tx, ty, ⟨p, kvs, d, rfl, e, ok, hv, q⟩, k⟩ := q2
  cases tx
  cases rx
  obtain ⟨a, rfl⟩ := keyOk_ref ty ok
  cases ry
  obtain ⟨es, xs, hH, r1, r2, hd, hm⟩ := dv_at I2 ar e
  exact ⟨hm.typeIs, get_dct I2 ar e ty ok hv hu fun s3 v w I3 rw tw => ⟨v, H2, I3, rw, k _ _ _ _ q (.refl _) ar tw⟩⟩
/-! {} -/
def eDctNew : EW := fun _ A Q => ∀ p, A p = none → Q (.ref p) (upA A p (.dct []))
theorem dct_new (I : Inv X pins σ H s) : Inv X pins σ (upd H s.heap.objs.size (.ext (RawN X.prog X.w s.heap.objs.size []))) { s with heap := s.heap.push { cls := .type "dict", data := .dict #[] } } := by
  refine I.laid (t' := s.toks) (fun _ _ q => Heap.get?_push_of_some _ q) (Nat.le_refl _) (raw_ok (xs := []) ?_ .nil ?_)
  · have := I.big
    exact beq_eq_false_iff_ne.mpr (Nat.ne_of_gt this)
  · exact ⟨_, _, _, Heap.get?_push_size _ rfl, ⟨rfl, rfl, rfl⟩, rfl, rfl, fun x hx => (by cases hx), .nil⟩
theorem xdct0 {pos : Pos} : PE X (.Dict [] [] pos) (lE X eDctNew) := ⟨fun pins s σ H Q I h => by
  obtain ⟨env, A, Q', er, ar, h2, k⟩ := h
  have hp : H s.heap.objs.size = none := I.fresh
  exact wpAny_Dict_empty ⟨.ref s.heap.objs.size, _, dct_new I, rfl, k _ _ _ _ (h2 _ (ar.fresh hp)) (.new hp) (ar.put (od := .dct []) (.new hp) ⟨[], upd_same, .nil⟩) (.ref _)⟩⟩
/-- {k: v} -/
noncomputable def eDct1 (tk tv : EW) : EW := fun env A Q => tk env A fun d A1 => tv env A1 fun y A2 => keyOk d = true ∧ ∀ p, A2 p = none → Q (.ref p) (upA A2 p (.dct [(d, y)]))
end
end TL

/-! TK: sorted lists, lists of what is walked. -/
namespace TL
open PySem PySem.Spec L2
open PySem.W (EachIs Sortable AllAlike dataLe dataLt KdlSrc kdu_collect kdl_call)
open PyProof.Rows (seqObj)
noncomputable def sortD (ds : List D) : List D := ds.mergeSort fun a b => !ltD b a
/-- what may be sorted -/
def Sok (ds : List D) : Prop := (∀ d ∈ ds, okE d = true) ∧ (∀ d ∈ ds, ∀ e ∈ ds, alk d e = true) ∧ ((∀ d ∈ ds, ∃ x r, d = .tup (x :: r)) ∨ ∀ d ∈ ds, (∃ i, d = .int i) ∨ ∃ z, d = .str z)
theorem sortD_perm (ds : List D) : (sortD ds).Perm ds := List.mergeSort_perm _ _
theorem sortD_length (ds : List D) : (sortD ds).length = ds.length := (sortD_perm ds).length_eq
abbrev RvD (K : PySem.W.Frag) (H : Hp) : Value → D → Prop := fun u d => ∃ x, RelV x u ∧ TV K H x d
section
variable {K : PySem.W.Frag} {H : Hp}
theorem each_of : ∀ {vs : List V} {us : List Value} {ds : List D}, Vals vs us → TVs K H vs ds → EachIs (RvD K H) us ds
  | _, _, _, .nil, .nil => .nil
  | _, _, _, .cons r rs, .cons t ts => .cons ⟨_, r, t⟩ (each_of rs ts)
theorem of_each : ∀ {us : List Value} {ds : List D}, EachIs (RvD K H) us ds → ∃ vs, Vals vs us ∧ TVs K H vs ds
  | _, _, .nil => ⟨[], .nil, .nil⟩
  | _, _, .cons ⟨x, r, t⟩ es => by
    obtain ⟨vs, h1, h2⟩ := of_each es
    exact ⟨x :: vs, .cons r h1, .cons t h2⟩
end
theorem sort_le {ds : List D} (sk : Sok ds) : ds.mergeSort (dataLe false py) = sortD ds := by
  unfold sortD
  have h := List.map_mergeSort (r := dataLe false py) (s := fun a b => !ltD b a) (f := id) (l := ds) (fun a ha b hb => by
    rw [PySem.W.dataLe_eq]
    show (!dataLt (py b) (py a)) = !ltD b a
    rw [ltD_py 16 b a (sk.1 b hb) (sk.1 a ha) (sk.2.1 b hb a ha)])
  simpa using h
theorem sok_py {ds : List D} (sk : Sok ds) : AllAlike (ds.map py) ∧ Sortable (ds.map py) := by
  refine ⟨fun d hd e he => ?_, ?_⟩
  · obtain ⟨x, hx, rfl⟩ := List.mem_map.mp hd
    obtain ⟨y, hy, rfl⟩ := List.mem_map.mp he
    exact alk_py 16 x y (sk.1 x hx) (sk.2.1 x hx y hy)
  · rcases sk.2.2 with h | h
    · refine .inl fun d hd => ?_
      obtain ⟨x, hx, rfl⟩ := List.mem_map.mp hd
      obtain ⟨z, r, rfl⟩ := h x hx
      exact ⟨py z, pys r, rfl⟩
    · refine .inr fun d hd => ?_
      obtain ⟨x, hx, rfl⟩ := List.mem_map.mp hd
      rcases h x hx with ⟨i, rfl⟩ | ⟨z, rfl⟩
      · exact ⟨fun e => (by cases e), fun xs e => (by cases e)⟩
      · exact ⟨fun e => (by cases e), fun xs e => (by cases e)⟩
section
variable {X : Cx} {pins : List (Addr × Obj)} {σ : L2.St} {H : Hp} {s : Shared} {A : SD} {Q : VK} {Q' : QD} {ds : List D}
theorem each_reads (I : Inv X pins σ H s) : ∀ {vs : List V} {us : List Value} {ds : List D}, (∀ d ∈ ds, okE d = true) → Vals vs us → TVs X.K H vs ds → EachIs (fun u d => ∃ as, Reads s.heap u (py d) as) us ds
  | _, _, _, _, .nil, .nil => .nil
  | _, _, _, h, .cons r rs, .cons t ts => .cons (Dp.reads I _ _ _ (TV.dp 16 _ _ t (h _ (by simp))) r) (each_reads I (fun d hd => h d (by simp [hd])) rs ts)
/-- sorted(..) of whatever is walked -/
theorem sorted_core {it : Addr} (hu : X.A.units + 64 < cLine) (ar : ARx X A H) (sk : Sok ds) (hz : ds.length ≤ sizeLine)
    (hcol : ∀ (E : Value → Shared → Prop) (R : List Value → Shared → Prop), (∀ us s1 vs, Inv X pins σ H s1 → Vals vs us → TVs X.K H vs ds → R us s1) → wpAny (model X.prog X.w) X.A.in1 (collect (.ref it)) R E s)
    (k : ∀ d A' v H', Q' d A' → KeepT H H' → ARx X A' H' → TV X.K H' v d → Q v H') (q : Q' (.lst (sortD ds)) A) : wpAny (model X.prog X.w) X.A (call (.builtin "sorted") [.ref it]) (EP X pins σ Q) X.xe s := by
  refine PyProof.Rows.call_function_entry_kw PyProof.Rows.kind_sorted PyProof.Rows.plain_sorted PyProof.Rows.entry_sorted (PyProof.Rows.args_sorted1 _) ?_
  unfold Builtin.«sorted»
  refine wpAny_bind (m := checkCount "sorted" 1 1 _) (wpAny_pure ?_)
  refine wpAny_bind (hcol _ _ fun us s1 vs I1 rv tv => ?_)
  have hl : us.length = ds.length := by rw [← rv.length, tv.length]
  refine wpAny_bind (wpAny_newList ?_ (by rw [hl]; exact hz))
  have hn : s1.heap.get? s1.heap.objs.size = none := Heap.get?_none_of_le (Nat.le_refl _)
  have hat : (s1.heap.push (seqObj "list" us.toArray 0)).get? s1.heap.objs.size = some (seqObj "list" us.toArray 0) := Heap.get?_push_size _ rfl
  have er : EachIs (fun v b => ∃ as, Reads (s1.heap.push (seqObj "list" us.toArray 0)) v (py b) as ∧ s1.heap.objs.size ∉ as) us ds := (each_reads I1 sk.1 rv tv).mono fun v b ⟨as, r⟩ =>
    ⟨as, PyProof.Rows.Reads.keeps (fun _ _ e => Heap.get?_push_of_some _ e) r, fun hm => by
      obtain ⟨o, ho⟩ := PyProof.On.reads_mem_get r _ hm
      rw [hn] at ho; cases ho⟩
  refine wpAny_bind (wpAny_holding ?_)
  refine wpAny_mono (PySem.W.list_sort_data (s := { s1 with heap := s1.heap.push (seqObj "list" us.toArray 0) }) (a := s1.heap.objs.size) (R := RvD X.K H) (enc := py) hat (each_of rv tv) er (sok_py sk).1 (sok_py sk).2 hz (fun b hb => ?_)
    (Q := fun v s' => ∃ out, out.length = ds.length ∧ EachIs (RvD X.K H) out (ds.mergeSort (dataLe false py)) ∧ s' = { s1 with heap := PyProof.Rows.sortedHeap (s1.heap.push (seqObj "list" us.toArray 0)) s1.heap.objs.size us out.toArray }) (fun out h1 h2 => ⟨out, h1, h2, rfl⟩)) (fun v s' hq => ?_) (fun _ _ e => e)
  · have := py_depth 16 b (sk.1 b hb)
    show X.A.units + 1 + 1 + (py b).depth < cLine
    omega
  · obtain ⟨out, h1, h2, rfl⟩ := hq
    rw [sort_le sk] at h2
    obtain ⟨ws, hv, tw⟩ := of_each h2
    refine wpAny_pure ⟨_, rfl, ?_⟩
    obtain ⟨e, he⟩ := PyProof.Rows.sortedHeap_at (out := out.toArray) hat
    have I2 : Inv X pins σ (upd H s1.heap.objs.size (.lst ws)) { s1 with heap := PyProof.Rows.sortedHeap (s1.heap.push (seqObj "list" us.toArray 0)) s1.heap.objs.size us out.toArray } := by
      refine I1.laid (t' := s1.toks) (fun b u hb => ?_) (Nat.le_refl _) ⟨by rw [tw.length, sortD_length]; exact hz, out, e, hv, he⟩
      have hlt := Heap.lt_size hb
      rw [PyProof.Rows.sortedHeap_old (Nat.ne_of_lt hlt) (by rw [PyProof.Rows.size_push']; exact Nat.lt_succ_of_lt hlt)]
      exact Heap.get?_push_of_some _ hb
    exact MkL.fz ⟨_, I1.fresh, rfl, I2⟩ ar tw k q
theorem col_seq {a : Addr} {vs : List V} (I : Inv X pins σ H s) (hq : SqL X.K H a vs ∨ SqT X.K H a vs) (tv : TVs X.K H vs ds) (Ar : Around) (E : Value → Shared → Prop) (R : List Value → Shared → Prop) (h : ∀ us s1 vs, Inv X pins σ H s1 → Vals vs us → TVs X.K H vs ds → R us s1) : wpAny (model X.prog X.w) Ar (collect (.ref a)) R E s := by
  rcases hq with hq | hq
  · obtain ⟨its, rv, p, hz⟩ := I.list hq
    obtain ⟨o, ho, hc, n, hd⟩ := p.isList
    exact wpAny_collect_seq a (.inl rfl) ho hc hd (fun h' hk => h _ _ vs (I.kept (t' := s.toks) hk) (by simpa using rv) tv) (by rw [List.size_toArray, ← rv.length]; exact hz)
  · obtain ⟨its, rv, p, hz⟩ := I.tuple hq
    obtain ⟨o, ho, hc, n, hd⟩ := p
    exact wpAny_collect_seq a (.inr rfl) ho hc hd (fun h' hk => h _ _ vs (I.kept (t' := s.toks) hk) (by simpa using rv) tv) (by rw [List.size_toArray, ← rv.length]; exact hz)
/-- sorted of a list or a tuple -/
def rSort : List D → SD → QD → Prop := fun ds A Q => ∃ d xs, ds = [d] ∧ qv A d = some xs ∧ Sok xs ∧ Q (.lst (sortD xs)) A
theorem c_sort (hu : X.A.units + 64 < cLine) : CallR X (.builtin "sorted") (lCall X rSort) := by
  intro pins s σ H vs us Q I r h
  obtain ⟨ds, A, Q', ar, tv, ⟨d, xs, rfl, e, sk, q⟩, k⟩ := h
  cases tv with
  | cons t ts =>
    cases ts
    obtain ⟨a, ws, rfl, hq, tw⟩ := qv_at ar t e
    rw [L2.Vals.ref1 r]
    have hz : xs.length ≤ sizeLine := by
      rw [← tw.length]
      rcases hq with hq | hq
      · exact (fits I).1 _ _ hq
      · exact (fits I).2 _ _ hq
    exact sorted_core hu ar sk hz (fun E R h => col_seq I hq tw X.A.in1 E R h) k q
/-- the keys of a dict with tuple keys, as a source of list(d), sorted(d) -/
theorem dict_src (I : Inv X pins σ H s) (ar : ARx X A H) {p : Addr} {kvs : List (D × D)} (e : dv A p = some kvs) (hz : kvs.length ≤ sizeLine) : ∃ (n : Nat) (Pr : Nat → Value → Prop) (OK : Heap → Prop), KdlSrc X.prog X.w "dict" p p n Pr OK ∧ OK s.heap ∧ n ≤ sizeLine ∧
    ∀ acc, ItemsOf Pr acc n → ∃ vs, Vals vs acc.toList ∧ TVs X.K H vs (kvs.map (·.1)) := by
  obtain ⟨es, xs, hH, r1, r2, hd, hm⟩ := dv_at I ar e
  obtain ⟨es', ep, hr, hs, hi⟩ := hm.raw
  have l1 := Paired.len r1
  have l2 := Paired.len r2
  refine ⟨_, _, _, KdlSrc.rawDict (es := es') (ep := ep) hd, hr, by omega, fun acc ha => ?_⟩
  have go : ∀ (kvs : List (D × D)) (es : List (NestedKey × Addr × V)) (xs : List (NestedKey × Addr × Value)) (us : List Value), Paired (RelK X.K H) kvs es → Paired RelN es xs → us.length = xs.length → (∀ (i : Nat) (x : NestedKey × Addr × Value), xs[i]? = some x → us[i]? = some (Value.ref x.2.1)) → ∃ vs, Vals vs us ∧ TVs X.K H vs (kvs.map (·.1)) := by
    intro kvs es xs us r1
    induction r1 generalizing xs us with
    | nil =>
      intro r2 hl _
      cases r2
      have : us = [] := List.eq_nil_of_length_eq_zero (by simpa using hl)
      subst this
      exact ⟨[], .nil, .nil⟩
    | cons q1 t1 ih =>
      intro r2 hl hx
      cases r2 with
      | cons q2 t2 =>
        cases us with
        | nil => simp at hl
        | cons u us =>
          obtain ⟨vs, h1, h2⟩ := ih _ us t2 (by simpa using hl) (fun i x hi => by simpa using hx (i + 1) x (by simpa using hi))
          have hu := hx 0 _ rfl
          simp at hu
          refine ⟨.ref _ :: vs, .cons (by rw [hu, ← q2.2.1]; rfl) h1, .cons q1.2.2.1 h2⟩
  refine go kvs es xs acc.toList r1 r2 (by rw [Array.length_toList, ha.1]; omega) fun i x hx => ?_
  have hi1 : i < es'.size := by rw [hs]; exact (List.getElem?_eq_some_iff.mp hx).1
  obtain ⟨y, hy, e1, e2, e3⟩ := hi i hi1
  rw [hx] at hy
  cases hy
  have hb : i < acc.size := by rw [ha.1]; exact hi1
  have hv := ha.2 i acc[i] (Array.getElem?_eq_getElem hb)
  obtain ⟨_, hv⟩ := hv
  rw [Array.getElem?_toList, Array.getElem?_eq_getElem hb, hv, e1]
theorem col_dict (I : Inv X pins σ H s) (ar : ARx X A H) {p : Addr} {kvs : List (D × D)} (e : dv A p = some kvs) (hz : kvs.length ≤ sizeLine) (Ar : Around) (hh : Ar.handled = none) (E : Value → Shared → Prop) (R : List Value → Shared → Prop)
    (h : ∀ us s1 vs, Inv X pins σ H s1 → Vals vs us → TVs X.K H vs (kvs.map (·.1)) → R us s1) : wpAny (model X.prog X.w) Ar (collect (.ref p)) R E s := by
  obtain ⟨n, Pr, OK, K, hok, hn, ht⟩ := dict_src I ar e hz
  refine kdu_collect K hh hok hn fun h' tk acc hk hi => ?_
  obtain ⟨vs, h1, h2⟩ := ht acc hi
  exact h _ _ vs (I.kept (t' := tk) hk) h1 h2
/-- sorted of a dict with tuple keys -/
def rSortD : List D → SD → QD → Prop := fun ds A Q => ∃ p kvs, ds = [.ref p] ∧ dv A p = some kvs ∧ kvs.length ≤ sizeLine ∧ Sok (kvs.map (·.1)) ∧ Q (.lst (sortD (kvs.map (·.1)))) A
theorem c_sortD (hc : X.calm = true) (hu : X.A.units + 64 < cLine) : CallR X (.builtin "sorted") (lCall X rSortD) := by
  intro pins s σ H vs us Q I r h
  obtain ⟨ds, A, Q', ar, tv, ⟨p, kvs, rfl, e, hz, sk, q⟩, k⟩ := h
  cases tv with
  | cons t ts =>
    cases ts
    cases t
    rw [L2.Vals.ref1 r]
    exact sorted_core hu ar sk (by rw [List.length_map]; exact hz) (fun E R h => col_dict I ar e hz X.A.in1 (I.ok.hd hc) E R h) k q
/-- list of a dict with tuple keys, locked -/
def rListD : List D → SD → QD → Prop := fun ds A Q => ∃ p kvs, ds = [.ref p] ∧ dv A p = some kvs ∧ kvs.length ≤ sizeLine ∧ Q (.lst (kvs.map (·.1))) A
theorem c_listD (hc : X.calm = true) : CallR X (.type "list") (lCall X rListD) := by
  intro pins s σ H vs us Q I r h
  obtain ⟨ds, A, Q', ar, tv, ⟨p, kvs, rfl, e, hz, q⟩, k⟩ := h
  cases tv with
  | cons t ts =>
    cases ts
    cases t
    rw [L2.Vals.ref1 r]
    obtain ⟨n, Pr, OK, K, hok, hn, ht⟩ := dict_src I ar e hz
    refine kdl_call K (I.ok.hd hc) hok hn fun h' tk acc c' hk hl hi => ?_
    obtain ⟨ws, h1, h2⟩ := ht acc hi
    have I2 : Inv X pins σ (upd H s.heap.objs.size (.lst ws)) { s with heap := h', toks := tk } :=
      I.laid (fun b u hb => hk b u hb) (Nat.le_refl _) ⟨by rw [h2.length, List.length_map]; exact hz, acc.toList, c', h1, by simpa using hl⟩
    exact MkL.fz ⟨_, I.fresh, rfl, I2⟩ ar h2 k q
end
end TL

/-! TM: methods of built-ins; texts; dicts with int and text keys. -/
namespace TL
open PySem PySem.Spec L2
/-- the class of a receiver -/
def tyM (A : SD) : D → String
  | .str _ => "str" | .lst _ => "list" | .scr _ => "list"
  | .ref p => match A p with
    | some (.lst _) => "list" | some (.dct _) => "dict" | some (.dctL _) => "dict" | some (.dk _) => "dict" | some (.dkL _) => "dict" | _ => ""
  | _ => ""
section
variable {X : Cx} {pins : List (Addr × Obj)} {σ : L2.St} {H : Hp} {s : Shared} {A : SD}
theorem tyM_is {v : V} {u : Value} {d : D} {T : String} (I : Inv X pins σ H s) (r : RelV v u) (ar : ARx X A H) (tv : TV X.K H v d) (h : tyM A d = T) (hT : T ≠ "") : s.TypeIs u T ∧ ∀ a, u = .ref a → ∃ ob, s.heap.get? a = some ob ∧ ob.dict = none := by
  have lst : ∀ a ds, v = .ref a → lv A d = some ds → T = "list" → s.TypeIs u T ∧ ∀ a, u = .ref a → ∃ ob, s.heap.get? a = some ob ∧ ob.dict = none := fun a ds e hl hT => by
    obtain ⟨a', vs, e1, hq, _⟩ := lv_sq ar tv hl
    exact tyV_is I r (by subst e1; exact .inl ⟨hT, vs, hq⟩)
  cases tv with
  | str x => exact tyV_is I r (show tyV X.K T (.str x) H from h.symm)
  | lst hq t => exact lst _ _ rfl rfl h.symm
  | scr hq => exact lst _ _ rfl rfl h.symm
  | ref a =>
    simp only [tyM] at h
    cases r
    split at h
    · rename_i ds0 e
      exact lst a ds0 rfl (by simp only [lv, e]) h.symm
    · rename_i kvs e
      subst h
      obtain ⟨es, xs, hH, r1, r2, hd, hm⟩ := dv_at I ar (show dv A a = some kvs by simp [dv, e])
      obtain ⟨o, es', ep, ho, hc, _⟩ := hm
      exact ⟨⟨o, ho, hc.1⟩, fun b e => by cases e; exact ⟨o, ho, hc.2.1⟩⟩
    · rename_i kvs e
      subst h
      obtain ⟨es, xs, hH, r1, r2, hd, hm⟩ := dv_at I ar (show dv A a = some kvs by simp [dv, e])
      obtain ⟨o, es', ep, ho, hc, _⟩ := hm
      exact ⟨⟨o, ho, hc.1⟩, fun b e => by cases e; exact ⟨o, ho, hc.2.1⟩⟩
    · rename_i kvs e
      subst h
      obtain ⟨vs, h1, h2⟩ := ar a _ e
      have g := DGet.k h1 (k := .inr Str.empty)
      exact ⟨dict_typeIs I g, dict_noDict I g⟩
    · rename_i kvs e
      subst h
      obtain ⟨o, vs, h1, h2⟩ := ar a _ e
      have g : DGet H a (kV (.inr Str.empty)) (valV vs (.inr Str.empty)) := .inl ⟨vs, _, .inr ⟨o, h1⟩, rfl, rfl⟩
      exact ⟨dict_typeIs I g, dict_noDict I g⟩
    · exact absurd h.symm hT
  | _ => exact absurd h.symm hT
abbrev MD := D → List D → SD → QD → Prop
/-- o.m(), o.m(e, ..) -/
def eM0 (T : String) (rd : MD) (to : EW) : EW := fun env A Q => to env A fun x A1 => tyM A1 x = T ∧ rd x [] A1 Q
def eM (T : String) (rd : MD) (to : EW) (t : AW) : EW := fun env A Q => to env A fun x A1 => tyM A1 x = T ∧ t env A1 fun ds A2 => rd x ds A2 Q
variable {o e : Expr} {es : List Expr} {to : EW} {t : AW} {name : Str} {apos cpos : Pos} {T id : String} {rd : MD}
theorem xm0 (pa : PlainAttrs T) (slot : Slot T name id) (hty : typeOf (.builtin id) = pure (.type "method_descriptor")) (hm : MtR X id (lMt X rd)) (ho : PE X o (lE X to)) (hT : T ≠ "" := by decide)
    (hbase : attributeBase o name X.env (eval o X.env) = eval o X.env := by rfl) (hline : (apos.endLine == cpos.line) = true := by rfl) : PE X (.Call (.Attribute o name apos) [] [] cpos) (lE X (eM0 T rd to)) := by
  refine ⟨fun pins s σ H Q I h => ?_⟩
  obtain ⟨env, A, Q', er, ar, h2, k⟩ := h
  refine wpAny_Call_method0_late hbase hline (thn (lI.run1 (Q := fun _ _ _ => False) ho I er ar h2) fun v s1 ⟨x, H1, d, A1, I1, r1, k1, ar1, tv1, ty, q1⟩ => ?_)
  obtain ⟨h1, h2⟩ := tyM_is I1 r1 ar1 tv1 ty hT
  exact ⟨T, id, pa, slot, hty, h1, h2, Calls.callWith_builtin rfl (PySem.evalArgs_none (hm pins s1 σ H1 x [] v [] Q I1 r1 .nil ⟨d, [], A1, Q', ar1, tv1, .nil, q1, fun d A' v H' q kk => k d A' v H' q (k1.trans kk)⟩))⟩
theorem xm (pa : PlainAttrs T) (slot : Slot T name id) (hty : typeOf (.builtin id) = pure (.type "method_descriptor")) (hm : MtR X id (lMt X rd)) (ho : PE X o (lE X to)) (ha : PA X (e :: es) (lA X t)) (hT : T ≠ "" := by decide) (hbase : attributeBase o name X.env (eval o X.env) = eval o X.env := by rfl)
    (hfew : ((backTo cpos (starEach (e :: es) X.env)).all (fun x => !x.1) && (backToKw cpos (keywordEach [] X.env)).all (fun x => x.1.isSome) && decide ((e :: es).length + ([] : List Keyword).length + (if ([] : List Keyword).isEmpty then 0 else 1) < 30)) = true := by rfl)
    (hline : (apos.endLine == cpos.line) = true := by rfl) (hs : starEach (e :: es) X.env = (false, eval e X.env) :: starEach es X.env := by rfl) (hplain : (backTo cpos (starEach es X.env)).any (·.1) = false := by rfl) :
    PE X (.Call (.Attribute o name apos) (e :: es) [] cpos) (lE X (eM T rd to t)) := by
  refine ⟨fun pins s σ H Q I h => ?_⟩
  obtain ⟨env, A, Q', er, ar, h2, k⟩ := h
  refine wpAny_Call_method_late hbase hfew hline rfl (thn (lI.run1 (Q := fun _ _ _ => False) ho I er ar h2) fun v s1 ⟨x, H1, d, A1, I1, r1, k1, ar1, tv1, ty, q1⟩ => ?_)
  obtain ⟨h1, h2⟩ := tyM_is I1 r1 ar1 tv1 ty hT
  refine ⟨T, id, pa, slot, hty, h1, h2, ?_⟩
  have hA := lI.runA (pos := cpos) ha I1 (er.keep k1) ar1 q1
  rw [hs] at hA ⊢
  refine Calls.callWith_builtin (by show (false || (backTo cpos (starEach es X.env)).any (·.1)) = false; rw [hplain] <;> rfl) (Calls.evalArgs_plain ?_)
  exact thn hA fun us s2 ⟨vs, H2, ds, A2, I2, r2, k2, ar2, tv2, q2⟩ => hm pins s2 σ H2 x vs v us Q I2 r1 r2 ⟨d, ds, A2, Q', ar2, tv1.keep k2, tv2, q2, fun d A' v H' q kk => k d A' v H' q ((k1.trans k2).trans kk)⟩
end
/-! ### list methods -/
section
variable {X : Cx}
def rApp : MD := fun x ds A Q => ∃ p xs y, x = .ref p ∧ ds = [y] ∧ A p = some (.lst xs) ∧ xs.length < sizeLine ∧ Q .non (upA A p (.lst (xs ++ [y])))
theorem m_append : MtR X "list.append" (lMt X rApp) := by
  intro pins s σ H x vs v us Q I rx rv h
  obtain ⟨d, ds, A, Q', ar, tx, tv, ⟨p, xs, y, rfl, rfl, e, hz, q⟩, k⟩ := h
  cases tx
  cases tv with
  | cons t ts =>
    cases ts
    obtain ⟨ws, hw, tw⟩ := ar p _ e
    rename_i v1
    have km : KeepT H (upd H p (.lst (ws ++ [v1]))) := .mut hw trivial
    exact mt_append pins s σ H _ _ v us Q I rx rv ⟨p, ws, v1, rfl, rfl, hw, by rw [tw.length]; exact hz, k _ _ _ _ q km (ar.put (od := .lst (xs ++ [y])) km ⟨_, upd_same, (tw.append (.cons t .nil)).keep km⟩) .non⟩
/-- pop() -/
def rPop0 : MD := fun x ds A Q => ∃ p xs y, x = .ref p ∧ ds = [] ∧ A p = some (.lst xs) ∧ xs[xs.length - 1]? = some y ∧ Q y (upA A p (.lst xs.dropLast))
theorem TVs.dropLast {K : PySem.W.Frag} {H : Hp} {vs : List V} {ds : List D} (t : TVs K H vs ds) : TVs K H vs.dropLast ds.dropLast := by
  rw [List.dropLast_eq_take, List.dropLast_eq_take, t.length]
  exact t.take _
theorem m_pop0 : MtR X "list.pop" (lMt X rPop0) := by
  intro pins s σ H x vs v us Q I rx rv h
  obtain ⟨d, ds, A, Q', ar, tx, tv, ⟨p, xs, y, rfl, rfl, e, hy, q⟩, k⟩ := h
  cases tx
  cases tv
  obtain ⟨ws, hw, tw⟩ := ar p _ e
  obtain ⟨z, hz, tz⟩ := tw.get hy
  have km : KeepT H (upd H p (.lst ws.dropLast)) := .mut hw trivial
  exact mt_pop pins s σ H _ _ v us Q I rx rv ⟨p, ws, z, rfl, rfl, hw, by rw [tw.length]; exact hz, k _ _ _ _ q km (ar.put (od := .lst xs.dropLast) km ⟨_, upd_same, tw.dropLast.keep km⟩) (tz.keep km)⟩
/-- extend by a list, locked or not -/
def rExt : MD := fun x ds A Q => ∃ p xs y ys, x = .ref p ∧ ds = [y] ∧ A p = some (.lst xs) ∧ y ≠ .ref p ∧ lw A y = some ys ∧ xs.length + ys.length ≤ sizeLine ∧ Q .non (upA A p (.lst (xs ++ ys)))
theorem m_extend : MtR X "list.extend" (lMt X rExt) := by
  intro pins s σ H x vs v us Q I rx rv h
  obtain ⟨d, ds, A, Q', ar, tx, tv, ⟨p, xs, y, ys, rfl, rfl, e, hne, hy, hz, q⟩, k⟩ := h
  cases tx
  cases tv with
  | cons t ts =>
    cases ts
    obtain ⟨ws, hw, tw⟩ := ar p _ e
    obtain ⟨b, zs, rfl, hb, tb⟩ := lw_at ar t hy
    cases rx
    rw [L2.Vals.ref1 rv]
    obtain ⟨z, its, n, r, hl, e1⟩ := I.lstM hw
    obtain ⟨z2, its2, n2, r2, hl2, e2⟩ := I.lstA hb
    have hs : its.toArray.size + its2.toArray.size ≤ sizeLine := by
      rw [List.size_toArray, List.size_toArray, ← hl, ← hl2, tw.length, tb.length]
      exact hz
    have hlong : ¬ (!its.toArray.isEmpty && Builtin.List.listTooLong (its.toArray.size + its2.toArray.size)) = true := by
      rw [notLongL hs, Bool.and_false]
      exact Bool.false_ne_true
    refine call_meets PySem.F.slot_list_extend ⟨_, e1, rfl⟩ PySem.F.entry_list_extend (PySem.F.args_list_extend_2 _ _) (AutoSeq1.list_extend_list_list_0 p its.toArray n b its2.toArray n2 hlong (by rw [List.size_toArray]; omega) (by omega)) ⟨e1, e2, ?_⟩
    have km : KeepT H (upd H p (.lst (ws ++ zs))) := .mut hw trivial
    refine ⟨.non, _, I.lset (its' := its ++ its2) hw e1 (by simp) (r.append r2) ?_, rfl, k _ _ _ _ q km (ar.put (od := .lst (xs ++ ys)) km ⟨_, upd_same, (tw.append tb).keep km⟩) .non⟩
    rw [List.length_append, tw.length, tb.length]
    exact hz
/-! ### texts -/
theorem TVs.strs {K : PySem.W.Frag} {H : Hp} : ∀ ns : List Str, TVs K H (ns.map V.str) (ns.map D.str)
  | [] => .nil
  | n :: ns => .cons (.str n) (TVs.strs ns)
theorem TVs.strsV {K : PySem.W.Frag} {H : Hp} : ∀ {ns : List Str} {vs : List V}, TVs K H vs (ns.map D.str) → vs = ns.map V.str
  | [], _, .nil => rfl
  | n :: ns, _, .cons t ts => by
    cases t
    rw [TVs.strsV ts, List.map_cons]
/-- split, the list locked -/
def rSplit : MD := fun x ds A Q => ∃ a b, x = .str a ∧ ds = [.str b] ∧ (b.length == 0) = false ∧ a.length + 2 ≤ sizeLine ∧ Q (.lst ((Txt.split a b).map .str)) A
theorem m_split : MtR X "str.split" (lMt X rSplit) := by
  intro pins s σ H x vs v us Q I rx rv h
  obtain ⟨d, ds, A, Q', ar, tx, tv, ⟨a, b, rfl, rfl, hb, hz, q⟩, k⟩ := h
  cases tx
  cases tv with
  | cons t ts =>
    cases ts
    cases t
    exact thn (mt_split pins s σ H _ _ v us (fun v H' => ∃ p, H p = none ∧ v = .ref p ∧ H' = upd H p (.lst ((Txt.split a b).map V.str))) I rx rv ⟨a, b, rfl, rfl, hb, hz, fun p hp => ⟨p, hp, rfl, rfl⟩⟩) fun u s1 ⟨v1, H1, I1, r1, l, hl, e1, e2⟩ => by
      subst e1 e2
      exact MkL.fz ⟨l, hl, r1, I1⟩ ar (TVs.strs _) k q
def rJoin : MD := fun x ds A Q => ∃ a d, ∃ ys : List Str, x = .str a ∧ ds = [d] ∧ qv A d = some (ys.map .str) ∧ (ys.map (·.length)).sum + ys.length * a.length ≤ 16777216 ∧ Q (.str (Txt.join a ys)) A
theorem m_join : MtR X "str.join" (lMt X rJoin) := by
  intro pins s σ H x vs v us Q I rx rv h
  obtain ⟨d, ds, A, Q', ar, tx, tv, ⟨a, b, ys, rfl, rfl, hb, hz, q⟩, k⟩ := h
  cases tx
  cases tv with
  | cons t ts =>
    cases ts
    obtain ⟨p, ws, rfl, hq, tw⟩ := qv_at ar t hb
    rw [tw.strsV] at hq
    exact mt_join pins s σ H _ _ v us Q I rx rv ⟨a, p, ys, rfl, rfl, hq, hz, k _ _ _ _ q (.refl _) ar (.str _)⟩
/-- int(text) -/
def rIntS : List D → SD → QD → Prop := fun ds A Q => ∃ a n, ds = [.str a] ∧ PySem.intText? a = some n ∧ a.length ≤ 640 ∧ Q (.int n) A
theorem c_intS : CallR X (.type "int") (lCall X rIntS) := by
  intro pins s σ H vs us Q I r h
  obtain ⟨ds, A, Q', ar, tv, ⟨a, n, rfl, h1, h2, q⟩, k⟩ := h
  cases tv with
  | cons t ts =>
    cases ts
    cases t
    exact call_int_str pins s σ H _ us Q I r ⟨a, n, rfl, h1, h2, k _ _ _ _ q (.refl _) ar (.int _)⟩
end
end TL

/-! TN: dicts with int and text keys; displays; get, update, pop; str; list times int. -/
namespace TL
open PySem PySem.Spec L2
/-! ### dicts with int and text keys -/
abbrev RelKK (K : PySem.W.Frag) (H : Hp) : Key × D → Key × V → Prop := fun kv x => kv.1 = x.1 ∧ TV K H x.2 kv.2
def toK : D → Option Key
  | .int i => some (.inl i)
  | .str x => some (.inr x)
  | _ => none
def mergeD (kvs more : List (Key × D)) : List (Key × D) := more.foldl (fun acc kv => putD acc kv.1 kv.2) kvs
section
variable {K : PySem.W.Frag} {H H' : Hp}
theorem toK_kV {d : D} {v : V} {k : Key} (h : toK d = some k) (t : TV K H v d) : v = kV k := by
  cases t with
  | int i => cases h; rfl
  | str x => cases h; rfl
  | _ => cases h
theorem valKK {k : Key} : ∀ {kvs : List (Key × D)} {vs : List (Key × V)}, Paired (RelKK K H) kvs vs → (valD kvs k = none ∧ valV vs k = none) ∨ ∃ y v, valD kvs k = some y ∧ valV vs k = some v ∧ TV K H v y
  | _, _, .nil => .inl ⟨rfl, rfl⟩
  | kv :: kvs, x :: vs, .cons r t => by
    have ih := valKK (k := k) t
    unfold valD valV at ih ⊢
    rw [List.find?_cons, List.find?_cons, ← r.1]
    cases e : decide (kv.1 = k) with
    | true => exact .inr ⟨kv.2, x.2, rfl, rfl, r.2⟩
    | false => exact ih
theorem putKK {k : Key} {y : D} {v : V} (tv : TV K H v y) {kvs : List (Key × D)} {vs : List (Key × V)} (r : Paired (RelKK K H) kvs vs) : Paired (RelKK K H) (putD kvs k y) (putK vs k v) := by
  unfold putD putK
  rw [valV_any]
  rcases valKK (k := k) r with ⟨h1, h2⟩ | ⟨z, u, h1, h2, h3⟩
  · rw [h1, h2]
    exact snoc_p (F := RelKK K H) (x := (k, y)) (y := (k, v)) ⟨rfl, tv⟩ r
  · rw [h1, h2]
    simp only [Option.isSome_some, if_true]
    clear h1 h2 h3
    induction r with
    | nil => exact .nil
    | cons q t ih =>
      rename_i x0 y0 _ _
      rw [List.map_cons, List.map_cons]
      refine .cons ?_ ih
      by_cases e : x0.1 = k
      · rw [if_pos e, if_pos (q.1 ▸ e)]
        exact ⟨q.1, tv⟩
      · rw [if_neg e, if_neg (q.1 ▸ e)]
        exact q
theorem mergeKK : ∀ {more : List (Key × D)} {ws : List (Key × V)} {kvs : List (Key × D)} {vs : List (Key × V)}, Paired (RelKK K H) more ws → Paired (RelKK K H) kvs vs → Paired (RelKK K H) (mergeD kvs more) (mergeK vs ws)
  | _, _, _, _, .nil, r => r
  | kv :: more, w :: ws, kvs, vs, .cons q t, r => by
    show Paired (RelKK K H) (mergeD (putD kvs kv.1 kv.2) more) (mergeK (putK vs w.1 w.2) ws)
    refine mergeKK t ?_
    rw [← q.1]
    exact putKK q.2 r
theorem RelKK.keep (k : KeepT H H') {kvs : List (Key × D)} {vs : List (Key × V)} (r : Paired (RelKK K H) kvs vs) : Paired (RelKK K H') kvs vs := r.mapQ fun p q z => ⟨z.1, z.2.keep k⟩
end
/-- the pairs of the dict, walked or not -/
def dkv (A : SD) (p : Addr) : Option (List (Key × D)) := match A p with
  | some (.dk kvs) => some kvs
  | some (.dkL kvs) => some kvs
  | _ => none
section
variable {X : Cx} {pins : List (Addr × Obj)} {σ : L2.St} {H : Hp} {s : Shared} {A : SD}
theorem dkv_at (ar : ARx X A H) {p : Addr} {kvs : List (Key × D)} (h : dkv A p = some kvs) : ∃ vs, Rd H p (.dK vs) ∧ Paired (RelKK X.K H) kvs vs := by
  unfold dkv at h
  split at h
  · rename_i e
    cases h
    obtain ⟨vs, h1, h2⟩ := ar p _ e
    exact ⟨vs, .inl h1, h2⟩
  · rename_i e
    cases h
    obtain ⟨o, vs, h1, h2⟩ := ar p _ e
    exact ⟨vs, .inr ⟨o, h1⟩, h2⟩
  · cases h
/-- d[k] -/
def rGetDk : RD := fun x y A Q => ∃ p kvs k d, x = .ref p ∧ dkv A p = some kvs ∧ toK y = some k ∧ valD kvs k = some d ∧ Q d A
theorem xget_dk {o i : Expr} {to ti : EW} {pos : Pos} (hu : X.A.units + 64 < cLine) (ho : PE X o (lE X to)) (hi : PE X i (lE X ti)) (hs : NoSl i := by exact fun _ _ => rfl) : PE X (.Subscript o i pos) (lE X (eOp rGetDk to ti)) :=
  PE.imp (pe_dget (by omega) ho hi hs) fun σ H Q h => by
    obtain ⟨env, A, Q', er, ar, h2, k⟩ := h
    refine ⟨env, A, _, er, ar, h2, fun x A1 v1 H1 q1 k1 ar1 tv1 => ?_⟩
    refine ⟨env, A1, _, er.keep k1, ar1, q1, fun y A2 v2 H2 q2 k2 ar2 tv2 => ?_⟩
    obtain ⟨p, kvs, ky, d, rfl, e, hk, hv, q⟩ := q2
    have tv1' := tv1.keep k2
    cases tv1'
    obtain ⟨vs, rd, rr⟩ := dkv_at ar2 e
    rcases valKK (k := ky) rr with ⟨a1, a2⟩ | ⟨z, u, a1, a2, a3⟩
    · rw [hv] at a1; cases a1
    · rw [hv] at a1; cases a1
      exact ⟨p, u, rfl, .inl ⟨vs, ky, rd, toK_kV hk tv2, a2.symm⟩, k _ _ _ _ q (k1.trans k2) ar2 a3⟩
theorem isSomeKK {k : Key} {kvs : List (Key × D)} {vs : List (Key × V)} (r : Paired (RelKK X.K H) kvs vs) : (valV vs k).isSome = (valD kvs k).isSome := by
  rcases valKK (k := k) r with ⟨a1, a2⟩ | ⟨z, u, a1, a2, a3⟩
  · rw [a1, a2]; rfl
  · rw [a1, a2]; rfl
def rInDk : RD := fun x y A Q => ∃ p kvs k, y = .ref p ∧ dkv A p = some kvs ∧ toK x = some k ∧ Q (.bl (valD kvs k).isSome) A
theorem o_inDk (hu : X.A.units + 64 < cLine) : OpR X (compareOp .In) (lR X rInDk) := by
  intro pins s σ H vx vy v u Q I rx ry h
  obtain ⟨x, y, A, Q', ar, tx, ty, ⟨p, kvs, ky, rfl, e, hk, q⟩, k⟩ := h
  cases ty
  cases ry
  obtain ⟨vs, rd, rr⟩ := dkv_at ar e
  refine d_in (by omega) I (.inl ⟨vs, ky, rd, toK_kV hk tx, rfl⟩) rx fun s' I' => ?_
  rw [isSomeKK rr]
  exact ⟨.bl _, H, I', rfl, k _ _ _ _ q (.refl _) ar (.bl _)⟩
/-- d[k] = v -/
def wDk : WD := fun o i x A Q => ∃ p kvs k, o = .ref p ∧ A p = some (.dk kvs) ∧ toK i = some k ∧ kvs.length < sizeLine ∧ Q (upA A p (.dk (putD kvs k x)))
theorem st_dk (hu : X.A.units + 64 < cLine) : PSet X (lSet X wDk) := by
  intro pins s σ H vo vi vx ov iv u Q I ro ri rx h
  obtain ⟨o, i, x, A, Q', ar, to, ti, tx, ⟨p, kvs, ky, rfl, e, hk, hz, q⟩, k⟩ := h
  cases to
  cases ro
  obtain ⟨vs, h1, h2⟩ := ar p _ e
  have km : KeepT H (upd H p (.dK (putK vs ky vx))) := .mut h1 trivial
  refine d_setItem (by omega) I (.inl ⟨vs, ky, h1, toK_kV hk ti, by rw [← Paired.len h2]; exact hz, rfl⟩) ri rx fun s' I' => ?_
  exact ⟨_, I', k _ _ q km (ar.put (od := .dk (putD kvs ky x)) km ⟨_, upd_same, RelKK.keep km (putKK tx h2)⟩)⟩
/-- get(k), get(k, x) -/
def rGet : MD := fun x ds A Q => ∃ p kvs y k, x = .ref p ∧ dkv A p = some kvs ∧ toK y = some k ∧ ((ds = [y] ∧ Q ((valD kvs k).getD .non) A) ∨ ∃ z, ds = [y, z] ∧ Q ((valD kvs k).getD z) A)
theorem m_getDk (hu : X.A.units + 64 < cLine) : MtR X "dict.get" (lMt X rGet) := by
  intro pins s σ H x vs v us Q I rx rv h
  obtain ⟨d, ds, A, Q', ar, tx, tv, ⟨p, kvs, y, ky, rfl, e, hk, h⟩, k⟩ := h
  cases tx
  cases rx
  obtain ⟨ws, rd, rr⟩ := dkv_at ar e
  have vl := valKK (k := ky) rr
  rcases h with ⟨rfl, q⟩ | ⟨z, rfl, q⟩
  · cases tv with
    | cons t ts =>
      cases ts
      cases rv with
      | cons r rs =>
        cases rs
        refine d_get1 (by omega) I (.inl ⟨ws, ky, rd, toK_kV hk t, rfl⟩) r fun w' s' I' r' => ⟨_, H, I', r', k _ _ _ _ q (.refl _) ar ?_⟩
        rcases vl with ⟨a1, a2⟩ | ⟨z, u, a1, a2, a3⟩
        · rw [a1, a2]; exact .non
        · rw [a1, a2]; exact a3
  · cases tv with
    | cons t ts =>
      cases ts with
      | cons t2 ts =>
        cases ts
        cases rv with
        | cons r rs =>
          cases rs with
          | cons r2 rs =>
            cases rs
            refine d_get2 (by omega) I (.inl ⟨ws, ky, rd, toK_kV hk t, rfl⟩) r r2 fun w' s' I' r' => ⟨_, H, I', r', k _ _ _ _ q (.refl _) ar ?_⟩
            rcases vl with ⟨a1, a2⟩ | ⟨z, u, a1, a2, a3⟩
            · rw [a1, a2]; exact t2
            · rw [a1, a2]; exact a3
/-- update(a dict) -/
def rUpd : MD := fun x ds A Q => ∃ p o kvs more, x = .ref p ∧ ds = [.ref o] ∧ p ≠ o ∧ A p = some (.dk kvs) ∧ dkv A o = some more ∧ kvs.length + more.length ≤ sizeLine ∧ Q .non (upA A p (.dk (mergeD kvs more)))
theorem m_updDk : MtR X "dict.update" (lMt X rUpd) := by
  intro pins s σ H x vs v us Q I rx rv h
  obtain ⟨d, ds, A, Q', ar, tx, tv, ⟨p, o, kvs, more, rfl, rfl, hne, e, e2, hz, q⟩, k⟩ := h
  cases tx
  cases rx
  cases tv with
  | cons t ts =>
    cases ts
    cases t
    rw [L2.Vals.ref1 rv]
    obtain ⟨vs1, h1, r1⟩ := ar p _ e
    obtain ⟨vs2, rd, r2⟩ := dkv_at ar e2
    obtain ⟨z, hd, xs, rel, dd⟩ := dk_of I.hok h1
    obtain ⟨z2, hd2, xs2, rel2, dd2⟩ := dk_rd I.hok rd
    have l1 := Paired.len r1
    have l2 := Paired.len r2
    have km : KeepT H (upd H p (.dK (mergeK vs1 vs2))) := .mut h1 trivial
    have hm : (mergeK vs1 vs2).length ≤ sizeLine := by
      have := length_mergeK vs2 vs1
      omega
    refine call_meetsIn PySem.F.slot_dict_update dd.typeIs PySem.F.entry_dict_update (PySem.F.args_dict_update_2 _ _) (meets_dict_update (mixKind X.prog X.w) p o hne hd2) ⟨xs, xs2, dd, dd2, by rw [← rel.length, ← rel2.length]; omega, fun h' d1 d2 hs => ?_⟩
    refine ⟨.non, _, d_write I (t' := s.toks) (by rw [h1]; exact trivial) hs (let ⟨q, _, _, hq, _⟩ := d1; ⟨q, hq⟩) (dk_new hm hd (rel2.merge rel) d1), rfl, k _ _ _ _ q km (ar.put (od := .dk (mergeD kvs more)) km ⟨_, upd_same, RelKK.keep km (mergeKK r2 r1)⟩) .non⟩
/-- dict(d): a copy -/
def rCopy : List D → SD → QD → Prop := fun ds A Q => ∃ o kvs, ds = [.ref o] ∧ dkv A o = some kvs ∧ ∀ p, A p = none → Q (.ref p) (upA A p (.dk kvs))
theorem c_copyDk : CallR X (.type "dict") (lCall X rCopy) := by
  intro pins s σ H vs us Q I r h
  obtain ⟨ds, A, Q', ar, tv, ⟨o, kvs, rfl, e, q⟩, k⟩ := h
  cases tv with
  | cons t ts =>
    cases ts
    cases t
    rw [L2.Vals.ref1 r]
    obtain ⟨vs, rd, rr⟩ := dkv_at ar e
    refine d_copyOf I rd fun p s' hp I' => ⟨.ref p, _, I', rfl, k _ _ _ _ (q p (ar.fresh hp)) (.new hp) (ar.put (od := .dk kvs) (.new hp) ⟨_, upd_same, RelKK.keep (.new hp) rr⟩) (.ref p)⟩
end
/-! ### displays -/
abbrev PW := ED → SD → (List (D × D) → SD → Prop) → Prop
def lP (X : Cx) (t : PW) (trs : List (TE × TE)) : Prop := ∀ σ H (Q : List (V × V) → Hp → Prop) env A Q', ER X.K H σ env → ARx X A H → t env A Q' → (∀ kvs A' ps H', Q' kvs A' → KeepT H H' → ARx X A' H' → Paired (fun (kv : D × D) (x : V × V) => TV X.K H' x.1 kv.1 ∧ TV X.K H' x.2 kv.2) kvs ps → Q ps H') → tPairs trs σ H Q
def pNil : PW := fun _ A Q => Q [] A
def pCons (tk tv : EW) (r : PW) : PW := fun env A Q => tk env A fun x A1 => tv env A1 fun y A2 => r env A2 fun kvs A3 => Q ((x, y) :: kvs) A3
section
variable {X : Cx} {pos : Pos}
structure XP (X : Cx) (pos : Pos) (keys : List (Option Expr)) (values : List Expr) (t : PW) : Prop where
  ex : ∃ trs, PPs X pos keys values trs ∧ lP X t trs
theorem xp0 : XP X pos [] [] pNil := ⟨[], pps_nil, fun σ H Q env A Q' er ar h k => k _ _ _ _ h (.refl _) ar .nil⟩
theorem xp {kx vx : Expr} {ks : List (Option Expr)} {vs : List Expr} {tk tv : EW} {r : PW} (hk : PE X kx (lE X tk)) (hv : PE X vx (lE X tv)) (hr : XP X pos ks vs r) : XP X pos (some kx :: ks) (vx :: vs) (pCons tk tv r) := by
  obtain ⟨trs, h1, h2⟩ := hr.ex
  refine ⟨_, pps_cons hk hv h1, fun σ H Q env A Q' er ar h k => ?_⟩
  refine ⟨env, A, _, er, ar, h, fun x A1 v1 H1 q1 k1 ar1 tv1 => ?_⟩
  refine ⟨env, A1, _, er.keep k1, ar1, q1, fun y A2 v2 H2 q2 k2 ar2 tv2 => ?_⟩
  refine h2 σ H2 _ env A2 _ ((er.keep k1).keep k2) ar2 q2 fun kvs A3 ps H3 q3 k3 ar3 pr => ?_
  exact k _ _ _ _ q3 ((k1.trans k2).trans k3) ar3 (.cons ⟨(tv1.keep k2).keep k3, tv2.keep k3⟩ pr)
/-- {k: v, ..}, keys ints and texts -/
def eDisp (t : PW) : EW := fun env A Q => ∀ p, A p = none → t env (upA A p (.dk [])) fun ps A2 => A2 p = some (.dk []) ∧ ∃ kvs : List (Key × D), ps.map (fun kv => toK kv.1) = kvs.map (fun kv => some kv.1) ∧ ps.map (·.2) = kvs.map (·.2) ∧ kvs.length ≤ 15 ∧ Q (.ref p) (upA A2 p (.dk (mergeD [] kvs)))
theorem disp_pairs {K : PySem.W.Frag} {H : Hp} : ∀ {ps : List (D × D)} {vs : List (V × V)} {kvs : List (Key × D)}, Paired (fun (kv : D × D) (x : V × V) => TV K H x.1 kv.1 ∧ TV K H x.2 kv.2) ps vs → ps.map (fun kv => toK kv.1) = kvs.map (fun kv => some kv.1) → ps.map (·.2) = kvs.map (·.2) →
    ∃ ws : List (Key × V), vs = ws.map (fun kv => (kV kv.1, kv.2)) ∧ Paired (RelKK K H) kvs ws
  | _, _, [], .nil, _, _ => ⟨[], rfl, .nil⟩
  | _, _, _ :: _, .nil, h, _ => by simp at h
  | _, _, [], .cons _ _, h, _ => by simp at h
  | p :: ps, v :: vs, kv :: kvs, .cons r t, h, h' => by
    simp only [List.map_cons, List.cons.injEq] at h h'
    obtain ⟨ws, e1, e2⟩ := disp_pairs t h.2 h'.2
    refine ⟨(kv.1, v.2) :: ws, ?_, .cons ⟨rfl, by rw [← h'.1]; exact r.2⟩ e2⟩
    rw [List.map_cons, ← e1, ← toK_kV h.1 r.1]
theorem xdisp {keys : List (Option Expr)} {values : List Expr} {t : PW} (h : XP X pos keys values t) (hall : keys.all (·.isSome) = true := by rfl) (hl : keys.length = values.length := by rfl) (h0 : keys ≠ [] := by exact List.cons_ne_nil _ _) (h15 : keys.length ≤ 15 := by decide) : PE X (.Dict keys values pos) (lE X (eDisp t)) := by
  obtain ⟨trs, h1, h2⟩ := h.ex
  refine PE.imp (pe_disp h1 hall hl h0 h15) fun σ H Q h => ?_
  obtain ⟨env, A, Q', er, ar, h3, k⟩ := h
  intro p hp
  have k0 : KeepT H (upd H p (.dK [])) := .new hp
  refine h2 σ _ _ env _ _ (er.keep k0) (ar.put (od := .dk []) k0 ⟨[], upd_same, .nil⟩) (h3 p (ar.fresh hp)) fun ps A2 vs H2 q2 k2 ar2 pr => ?_
  obtain ⟨e, kvs, m1, m2, hz, q⟩ := q2
  obtain ⟨us, e1, e2⟩ := ar2 p _ e
  cases e2
  obtain ⟨ws, rfl, rw⟩ := disp_pairs pr m1 m2
  have km : KeepT H2 (upd H2 p (.dK (mergeK [] ws))) := .mut e1 trivial
  refine ⟨e1, ws, rfl, by rw [← Paired.len rw]; exact hz, k _ _ _ _ q ((k0.trans k2).trans km) (ar2.put (od := .dk (mergeD [] kvs)) km ⟨_, upd_same, RelKK.keep km (mergeKK rw .nil)⟩) (.ref p)⟩
end
/-! ### str, list * int -/
section
variable {X : Cx}
def rStr1 : List D → SD → QD → Prop := fun ds A Q => (∃ i, ds = [.int i] ∧ i.natAbs.log2 < 1920 ∧ Q (.str (toString i)) A) ∨ ∃ x, ds = [.str x] ∧ Q (.str x) A
theorem c_str : CallR X (.type "str") (lCall X rStr1) := by
  intro pins s σ H vs us Q I r h
  obtain ⟨ds, A, Q', ar, tv, h, k⟩ := h
  rcases h with ⟨i, rfl, hz, q⟩ | ⟨x, rfl, q⟩
  · cases tv with
    | cons t ts =>
      cases ts
      cases t
      exact call_str_int pins s σ H _ us Q I r ⟨i, rfl, hz, k _ _ _ _ q (.refl _) ar (.str _)⟩
  · cases tv with
    | cons t ts =>
      cases ts
      cases t
      exact SkE.call_str_str pins s σ H _ us Q I r ⟨x, rfl, k _ _ _ _ q (.refl _) ar (.str _)⟩
/-- list * int, the list may be changed -/
def rRepM : RD := fun x y A Q => ∃ p xs i, x = .ref p ∧ A p = some (.lst xs) ∧ y = .int i ∧ -(2 ^ 63) ≤ i ∧ i < 2 ^ 63 ∧ xs.length * i.toNat ≤ sizeLine ∧ ∀ p, A p = none → Q (.ref p) (upA A p (.lst (List.replicate i.toNat xs).flatten))
theorem TVs.rep {K : PySem.W.Frag} {H : Hp} {vs : List V} {ds : List D} (t : TVs K H vs ds) : ∀ n : Nat, TVs K H (List.replicate n vs).flatten (List.replicate n ds).flatten
  | 0 => .nil
  | n + 1 => by
    rw [List.replicate_succ, List.replicate_succ, List.flatten_cons, List.flatten_cons]
    exact t.append (TVs.rep t n)
theorem o_repM : OpR X (binaryOp .Mult) (lR X rRepM) := by
  intro pins s σ H vx vy v u Q I rx ry h
  obtain ⟨x, y, A, Q', ar, tx, ty, ⟨p, xs, i, rfl, e, rfl, h1, h2, hz, q⟩, k⟩ := h
  cases tx
  cases ty
  obtain ⟨ws, hw, tw⟩ := ar p _ e
  exact op_rep pins s σ H _ _ v u Q I rx ry ⟨p, i, ws, rfl, rfl, hw, h1, h2, by rw [tw.length]; exact hz, fun l hl => k _ _ _ _ (q l (ar.fresh hl)) (.new hl) (ar.put (od := .lst _) (.new hl) ⟨_, upd_same, (tw.rep _).keep (.new hl)⟩) (.ref l)⟩
end
end TL

/-! TO: more of dicts with tuple keys: display, get, pop, update by pairs; dicts of the module. -/
namespace TL
open PySem PySem.Spec L2
section
variable {X : Cx}
/-- {k: v}; the new dict stands empty while these are made -/
noncomputable def eDctI (tk tv : EW) : EW := fun env A Q => ∀ p, A p = none → tk env (upA A p (.dct [])) fun d A1 => tv env A1 fun y A2 => keyOk d = true ∧ A2 p = some (.dct []) ∧ Q (.ref p) (upA A2 p (.dct [(d, y)]))
theorem xdct1 {kx vx : Expr} {tk tv : EW} {pos : Pos} (hu : X.A.units + 64 < cLine) (hk : PE X kx (lE X tk)) (hv : PE X vx (lE X tv)) : PE X (.Dict [some kx] [vx] pos) (lE X (eDctI tk tv)) := by
  refine ⟨fun pins s σ H Q I h => ?_⟩
  obtain ⟨env, A, Q', er, ar, h2, k⟩ := h
  have hp : H s.heap.objs.size = none := I.fresh
  generalize hpe : s.heap.objs.size = p at *
  have I1 := dct_new I
  rw [hpe] at I1
  have k0 : KeepT H (upd H p (.ext (RawN X.prog X.w p []))) := .new hp
  have ar0 : ARx X (upA A p (.dct [])) (upd H p (.ext (RawN X.prog X.w p []))) := ar.put (od := .dct []) k0 ⟨[], upd_same, .nil⟩
  have hr := (pps_cons (pos := pos) hk hv pps_nil).run pins _ σ _ (fun ps H3 => ∃ x y d w A2, ps = [(x, y)] ∧ KeepT H H3 ∧ ARx X A2 H3 ∧ TV X.K H3 x d ∧ TV X.K H3 y w ∧ keyOk d = true ∧ A2 p = some (.dct []) ∧ Q' (.ref p) (upA A2 p (.dct [(d, w)]))) I1 (by
    refine ⟨env, _, _, er.keep k0, ar0, h2 p (ar.fresh hp), fun d A1 x H1 q1 k1 ar1 tv1 => ?_⟩
    refine ⟨env, A1, _, (er.keep k0).keep k1, ar1, q1, fun w A2 y H2 q2 k2 ar2 tv2 => ?_⟩
    exact ⟨x, y, d, w, A2, rfl, (k0.trans k1).trans k2, ar2, tv1.keep k2, tv2, q2.1, q2.2.1, q2.2.2⟩)
  rw [arm_eval_Dict, zip_pairTrees [some kx] [vx] X.env pos rfl rfl, dictDisplay_pairs _ (fun e => by have := pairTrees_length [some kx] [vx] X.env pos rfl rfl; rw [e] at this; cases this) (by rw [pairTrees_length [some kx] [vx] X.env pos rfl rfl]; exact (by decide : 1 < 17))]
  refine wpAny_bind (wpAny_standAt (wpAny_bind (wpAny_subDictH (knd := nestedKind X.prog X.w) (Q := fun d s' => wpAny (model X.prog X.w) X.A (pure (Value.ref d)) (EP X pins σ Q) X.xe s') (by show X.A.units + 8 < cLine; omega) (by rw [pairTrees_length [some kx] [vx] X.env pos rfl rfl]; exact (by decide : 1 ≤ 15)) ?_)))
  rw [hpe]
  refine thn hr fun vs s1 hq => ?_
  obtain ⟨ps, H3, I3, rel, x, y, d, w, A2, rfl, kk, ar2, tx, ty, ok, e, q⟩ := hq
  cases rel with
  | cons r rs =>
    cases rs
    rename_i uv
    obtain ⟨u1, u2⟩ := uv
    obtain ⟨r1, r2⟩ := r
    obtain ⟨ky, hky⟩ := keyOk_some ok
    obtain ⟨a, rfl⟩ := keyOk_ref tx ok
    cases r1
    obtain ⟨es, xs, hH, p1, p2, hd, hm⟩ := dv_at I3 ar2 (show dv A2 p = some [] by simp [dv, e])
    cases p1
    cases p2
    have hH3 : H3 p = some (.ext (RawN X.prog X.w p [])) := by
      obtain ⟨es', g1, g2⟩ := ar2 p _ e
      cases g2
      exact g1
    refine ⟨[(ky, a, u2)], ⟨rfl, rfl, key_is I3 tx hky ok, trivial⟩, hm, fun h' tk hm' hs => wpAny_pure ?_⟩
    have hm' : h'.DictOfH (nestedKind X.prog X.w) p [(ky, a, u2)] := hm'
    have km : KeepT H3 (upd H3 p (.ext (RawN X.prog X.w p [(ky, a, y)]))) := .mut hH3 trivial
    exact ⟨.ref p, _, d_write I3 (by rw [hH3]; exact trivial) hs (by obtain ⟨o, _, _, h1, _⟩ := hm'; exact ⟨o, h1⟩) (raw_ok (xs := [(ky, a, u2)]) hd (.cons ⟨rfl, rfl, r2⟩ .nil) hm'), rfl,
      k _ _ _ _ q (kk.trans km) (ar2.put (od := .dct [(d, w)]) km ⟨_, upd_same, .cons ⟨hky, ok, tx.keep km, ty.keep km⟩ .nil⟩) (.ref p)⟩
/-- get(k, x) -/
noncomputable def rGetT : MD := fun x ds A Q => ∃ p kvs y z, x = .ref p ∧ ds = [y, z] ∧ dv A p = some kvs ∧ keyOk y = true ∧ Q ((valD kvs y).getD z) A
theorem m_getT (hu : X.A.units + 64 < cLine) : MtR X "dict.get" (lMt X rGetT) := by
  intro pins s σ H x vs v us Q I rx rv h
  obtain ⟨d, ds, A, Q', ar, tx, tv, ⟨p, kvs, y, z, rfl, rfl, e, ok, q⟩, k⟩ := h
  cases tx
  cases rx
  cases tv with
  | cons t ts =>
    cases ts with
    | cons t2 ts =>
      cases ts
      cases rv with
      | cons r rs =>
        cases rs with
        | cons r2 rs =>
          cases rs
          obtain ⟨es, xs, hH, p1, p2, hd, hm⟩ := dv_at I ar e
          obtain ⟨ky, hk⟩ := keyOk_some ok
          obtain ⟨a, rfl⟩ := keyOk_ref t ok
          cases r
          refine call_meetsIn PySem.F.slot_dict_get hm.typeIs PySem.F.entry_dict_get (PySem.F.args_dict_get_3 _ _ _) (meetsH_dict_get_default (nestedKind X.prog X.w) p a hd _) ⟨room8 hu, ky, xs, key_is I t hk ok, hm, ?_⟩
          rcases val_k hk p1 with ⟨h1, h2⟩ | ⟨w, b, v, h1, h2, h3⟩
          · rcases val_n (k := ky) p2 with ⟨g1, g2⟩ | ⟨b, v', u, g1, g2, g3⟩
            · rw [g2]
              rw [h1] at q
              exact ⟨_, H, I.tok _, r2, k _ _ _ _ q (.refl _) ar t2⟩
            · rw [h2] at g1; cases g1
          · rcases val_n (k := ky) p2 with ⟨g1, g2⟩ | ⟨b', v', u, g1, g2, g3⟩
            · rw [h2] at g1; cases g1
            · rw [h2] at g1; cases g1
              rw [g2]
              rw [h1] at q
              exact ⟨_, H, I.tok _, g3, k _ _ _ _ q (.refl _) ar h3⟩
/-- pop(k), there -/
noncomputable def rPopT : MD := fun x ds A Q => ∃ p kvs y z, x = .ref p ∧ ds = [y] ∧ A p = some (.dct kvs) ∧ kvs.length ≤ sizeLine ∧ keyOk y = true ∧ valD kvs y = some z ∧ Q z (upA A p (.dct (delD kvs y)))
theorem m_popT (hu : X.A.units + 64 < cLine) : MtR X "dict.pop" (lMt X rPopT) := by
  intro pins s σ H x vs v us Q I rx rv h
  obtain ⟨d, ds, A, Q', ar, tx, tv, ⟨p, kvs, y, z, rfl, rfl, e, hz, ok, hv, q⟩, k⟩ := h
  cases tx
  cases rx
  cases tv with
  | cons t ts =>
    cases ts
    cases rv with
    | cons r rs =>
      cases rs
      obtain ⟨es, xs, hH, p1, p2, hd, hm⟩ := dv_at I ar (show dv A p = some kvs by simp [dv, e])
      have hH : H p = some (.ext (RawN X.prog X.w p es)) := by
        obtain ⟨es', h1, h2⟩ := ar p _ e
        rcases hH with hH | ⟨o, hH⟩
        · exact hH
        · rw [h1] at hH; cases hH
      obtain ⟨ky, hk⟩ := keyOk_some ok
      obtain ⟨a, rfl⟩ := keyOk_ref t ok
      cases r
      have l1 := Paired.len p1
      have l2 := Paired.len p2
      refine call_meetsIn PySem.F.slot_dict_pop hm.typeIs PySem.F.entry_dict_pop (PySem.F.args_dict_pop_2 _ _) (meetsH_dict_pop (nestedKind X.prog X.w) p a hd [] (.inl rfl)) ⟨room8 hu, ky, xs, key_is I t hk ok, hm, by omega, fun p' hp' h' hm' hs => ?_, fun hn => ?_⟩
      · rcases val_k hk p1 with ⟨h1, h2⟩ | ⟨w, b, v, h1, h2, h3⟩
        · rw [hv] at h1; cases h1
        · rw [hv] at h1; cases h1
          rcases val_n (k := ky) p2 with ⟨g1, g2⟩ | ⟨b', v', u, g1, g2, g3⟩
          · rw [h2] at g1; cases g1
          · rw [h2] at g1; cases g1
            rw [g2] at hp'; cases hp'
            have km : KeepT H (upd H p (.ext (RawN X.prog X.w p (delN es ky)))) := .mut hH trivial
            exact ⟨_, _, d_write I (by rw [hH]; exact trivial) hs (by obtain ⟨o, _, _, h1, _⟩ := hm'; exact ⟨o, h1⟩) (raw_ok hd (del_n p2) hm'), g3,
              k _ _ _ _ q km (ar.put (od := .dct (delD kvs y)) km ⟨_, upd_same, (del_k hk p1).mapQ fun p q z => ⟨z.1, z.2.1, z.2.2.1.keep km, z.2.2.2.keep km⟩⟩) (h3.keep km)⟩
      · exfalso
        rcases val_k hk p1 with ⟨h1, h2⟩ | ⟨w, b, v, h1, h2, h3⟩
        · rw [hv] at h1; cases h1
        · rcases val_n (k := ky) p2 with ⟨g1, g2⟩ | ⟨b', v', u, g1, g2, g3⟩
          · rw [h2] at g1; cases g1
          · rw [hn] at g2; cases g2
/-! ### a dict of the module, text keys -/
/-- at d: the entries, the values numbers -/
def ModD (K : PySem.W.Frag) (w : World) (d : Addr) (f : Str → Option Int) : Prop := ∃ es n, KDict K w d es n ∧ ∀ x, PySem.W.nsIn K d x = some ((f x).map fun i => Value.int i 0) ∨ ∃ t, PySem.W.nsIn K d x = some ((f x).map fun i => Value.int i t)
end
end TL

/-! TP: a dict of the module with text keys and whole numbers: get. -/
namespace TL
open PySem PySem.Spec L2
def tabD (tab : List (Str × Int)) (x : Str) : Option Int := (tab.find? fun kv => decide (kv.1 = x)).map (·.2)
abbrev RelTab : DictEntry → Str × Int → Prop := fun e kv => (∃ t, e.key = .str kv.1 t) ∧ ∃ t, e.val = .int kv.2 t
theorem find_tab {x : Str} : ∀ {l : List DictEntry} {tab : List (Str × Int)}, Paired RelTab l tab → (tabD tab x = none ∧ l.find? (fun d => Value.isStrOf x d.key) = none) ∨ ∃ i e t, tabD tab x = some i ∧ l.find? (fun d => Value.isStrOf x d.key) = some e ∧ e.val = .int i t
  | _, _, .nil => .inl ⟨rfl, rfl⟩
  | e :: l, kv :: tab, .cons r t => by
    have ih := find_tab (x := x) t
    obtain ⟨⟨tk, h1⟩, tv, h2⟩ := r
    unfold tabD at ih ⊢
    rw [List.find?_cons, List.find?_cons]
    have hq : Value.isStrOf x e.key = decide (kv.1 = x) := by
      rw [h1]
      show (kv.1 == x) = decide (kv.1 = x)
      by_cases q : kv.1 = x
      · subst q; simp
      · rw [decide_eq_false q]; exact beq_eq_false_iff_ne.mpr q
    rw [hq]
    cases e1 : decide (kv.1 = x) with
    | true => exact .inr ⟨kv.2, e, tv, rfl, rfl, h2⟩
    | false => exact ih
section
variable {X : Cx} {d : Addr} {es : Array DictEntry} {n : Nat} {tab : List (Str × Int)}
def modV (tab : List (Str × Int)) (x : Str) (z : D) : D := match tabD tab x with
  | some i => .int i
  | none => z
/-- TAB.get(k, x) -/
def eModG (tab : List (Str × Int)) (te tx : EW) : EW := fun env A Q => aCons te (aCons tx aNil) env A fun ds A2 => ∃ x z, ds = [.str x, z] ∧ Q (modV tab x z) A2
theorem xmodg {o e f : Expr} {te tx : EW} {apos cpos : Pos} (D : KDict X.K X.w d es n) (T : Paired RelTab es.toList tab) (ho : PE X o (lE X (eC (.ref d)))) (he : PE X e (lE X te)) (hf : PE X f (lE X tx)) (m : M2 X o "get" apos e f cpos) (hs1 : starEach [e, f] X.env = (false, eval e X.env) :: starEach [f] X.env := by rfl) (hs2 : starEach [f] X.env = (false, eval f X.env) :: starEach [] X.env := by rfl) (hpl : (backTo cpos (starEach [f] X.env)).any (·.1) = false := by rfl) :
    PE X (.Call (.Attribute o "get" apos) [e, f] [] cpos) (lE X (eModG tab te tx)) := by
  refine ⟨fun pins s σ H Q I h => ?_⟩
  obtain ⟨env, A, Q', er, ar, h2, k⟩ := h
  refine wpAny_Call_method_late m.base m.few m.line rfl (thn (lI.run1 (Q := fun _ _ _ => False) (P := fun d' A1 => d' = .ref d ∧ (aCons te (aCons tx aNil)) env A1 fun ds A2 => ∃ x z, ds = [.str x, z] ∧ Q' (modV tab x z) A2) ho I er ar ⟨rfl, h2⟩) fun v s1 ⟨x, H1, d', A1, I1, r1, k1, ar1, tv1, hd, q1⟩ => ?_)
  subst hd
  cases tv1
  cases r1
  have mo := PySem.W.mapOf_K (prog := X.prog) (w := X.w) I1.kIn D.at_ D.lit
  refine ⟨"dict", "dict.get", PySem.F.plainAttrs_dict, PySem.F.slot_dict_get, PySem.F.type_dict_get, mo.typeIs, fun b e => ?_, ?_⟩
  · cases e
    exact ⟨_, I1.kIn _ _ D.at_, rfl⟩
  have hA := lI.runA (pos := cpos) (xa he (xa hf xa0 hs2) hs1) I1 (er.keep k1) ar1 q1
  rw [hs1] at hA ⊢
  refine Calls.callWith_builtin (by show (false || (backTo cpos (starEach [f] X.env)).any (·.1)) = false; rw [hpl] <;> rfl) (Calls.evalArgs_plain ?_)
  refine thn hA fun us s2 ⟨vs, H2, ds, A2, I2, r2, k2, ar2, tv2, x, z, e1, q2⟩ => ?_
  subst e1
  cases tv2 with
  | cons t ts => cases ts with
    | cons t2 ts =>
      cases ts
      cases t
      cases r2 with
      | cons r rs => cases rs with
        | cons r2 rs =>
          cases rs
          obtain ⟨tk, rfl⟩ := r
          have mo2 := PySem.W.mapOf_K (prog := X.prog) (w := X.w) I2.kIn D.at_ D.lit
          refine call_meetsIn PySem.F.slot_dict_get mo2.typeIs PySem.F.entry_dict_get (PySem.F.args_dict_get_3 _ _ _) (meets_dict_get_default (strKind X.prog X.w) d (strKind_is X.prog X.w x tk) D.low _) ⟨_, mo2, ?_⟩
          show EP X pins σ Q ((findBy Value.isStrOf es x).getD _) _
          have hf : findBy Value.isStrOf es x = (es.toList.find? fun e => Value.isStrOf x e.key).map (·.val) := by
            unfold findBy
            rw [← Array.find?_toList]
          rw [hf]
          rcases find_tab (x := x) T with ⟨h1, h2⟩ | ⟨i, e, t, h1, h2, h3⟩
          · rw [h2]
            unfold modV at q2
            rw [h1] at q2
            exact ⟨_, H2, I2.tok _, r2, k _ _ _ _ q2 (k1.trans k2) ar2 t2⟩
          · rw [h2]
            unfold modV at q2
            rw [h1] at q2
            refine ⟨.int i, H2, I2.tok _, ?_, k _ _ _ _ q2 (k1.trans k2) ar2 (.int i)⟩
            show RelV (.int i) e.val
            rw [h3]
            exact ⟨_, rfl⟩
end
end TL

/-! TQ: update of a dict with tuple keys by a list of pairs. -/
namespace TL
open PySem PySem.Spec L2
section
variable {X : Cx} {pins : List (Addr × Obj)} {σ : L2.St} {H : Hp} {s : Shared} {A : SD}
noncomputable def putAll (kvs prs : List (D × D)) : List (D × D) := prs.foldl (fun acc kv => putD acc kv.1 kv.2) kvs
/-- the pairs of a list of pairs, in the heap -/
theorem pairs_at (I : Inv X pins σ H s) : ∀ {prs : List (D × D)} {vs : List V} {us : List Value}, TVs X.K H vs (prs.map fun kv => D.tup [kv.1, kv.2]) → Vals vs us → (∀ kv ∈ prs, keyOk kv.1 = true) →
    ∃ (L : List (Addr × NestedKey × Addr × Value)) (es : List (NestedKey × Addr × V)), us = L.map (fun q => Value.ref q.1) ∧ (∀ q ∈ L, PairAt s.heap q.1 (.ref q.2.2.1) q.2.2.2 ∧ (nestedKind X.prog X.w).is s.heap q.2.1 q.2.2.1) ∧ Paired (RelK X.K H) prs es ∧ Paired RelN es (L.map (·.2))
  | [], _, _, .nil, .nil, _ => ⟨[], [], rfl, fun q hq => (by cases hq), .nil, .nil⟩
  | kv :: prs, v :: vs, u :: us, .cons t ts, .cons r rs, ok => by
    obtain ⟨L, es, h1, h2, h3, h4⟩ := pairs_at I ts rs (fun kv h => ok kv (by simp [h]))
    cases t with
    | tup hq tq =>
      cases r
      obtain ⟨its, rv, p, hz⟩ := I.tuple hq
      cases tq with
      | cons tk tq => cases tq with
        | cons tx tq =>
          cases tq
          cases rv with
          | cons rk rv => cases rv with
            | cons rx rv =>
              cases rv
              have okk := ok kv (by simp)
              obtain ⟨ky, hk⟩ := keyOk_some okk
              obtain ⟨a, rfl⟩ := keyOk_ref tk okk
              cases rk
              rename_i T x y
              refine ⟨(T, ky, a, y) :: L, (ky, a, x) :: es, by rw [h1]; rfl, fun q hq => ?_, .cons ⟨hk, okk, tk, tx⟩ h3, .cons ⟨rfl, rfl, rx⟩ h4⟩
              rcases List.mem_cons.mp hq with e | hq
              · subst e
                refine ⟨.inl ?_, key_is I tk hk okk⟩
                obtain ⟨o, e1, e2, n, e3⟩ := p
                exact ⟨o, e1, e2, n, e3⟩
              · exact h2 q hq
theorem putAll_k {K : PySem.W.Frag} {H : Hp} : ∀ {prs : List (D × D)} {es : List (NestedKey × Addr × V)} {kvs : List (D × D)} {vs : List (NestedKey × Addr × V)}, Paired (RelK K H) prs es → Paired (RelK K H) kvs vs → Paired (RelK K H) (putAll kvs prs) (es.foldl (fun acc x => putN acc x.1 x.2.1 x.2.2) vs)
  | _, _, _, _, .nil, r => r
  | kv :: prs, x :: es, kvs, vs, .cons q t, r => by
    show Paired (RelK K H) (putAll (putD kvs kv.1 kv.2) prs) (es.foldl (fun acc x => putN acc x.1 x.2.1 x.2.2) (putN vs x.1 x.2.1 x.2.2))
    exact putAll_k t (put_k q.1 q.2.1 q.2.2.1 q.2.2.2 r)
theorem putAll_n : ∀ {es vs : List (NestedKey × Addr × V)} {xs ys : List (NestedKey × Addr × Value)}, Paired RelN es xs → Paired RelN vs ys → Paired RelN (es.foldl (fun acc x => putN acc x.1 x.2.1 x.2.2) vs) (storedAllH ys xs)
  | _, _, _, _, .nil, r => r
  | x :: es, vs, y :: xs, ys, .cons q t, r => by
    show Paired RelN (es.foldl (fun acc x => putN acc x.1 x.2.1 x.2.2) (putN vs x.1 x.2.1 x.2.2)) (storedAllH (storedH ys y.1 y.2.1 y.2.2) xs)
    refine putAll_n t ?_
    rw [q.1, q.2.1]
    exact put_n q.2.2 r
/-- update(a list of pairs) -/
noncomputable def rUpdT : MD := fun x ds A Q => ∃ p y kvs prs, x = .ref p ∧ ds = [y] ∧ A p = some (.dct kvs) ∧ lw A y = some (prs.map fun kv => D.tup [kv.1, kv.2]) ∧ (∀ kv ∈ prs, keyOk kv.1 = true) ∧ kvs.length + prs.length ≤ sizeLine ∧ Q .non (upA A p (.dct (putAll kvs prs)))
theorem m_updT (hc : X.calm = true) (hu : X.A.units + 64 < cLine) : MtR X "dict.update" (lMt X rUpdT) := by
  intro pins s σ H x vs v us Q I rx rv h
  obtain ⟨d, ds, A, Q', ar, tx, tv, ⟨p, y, kvs, prs, rfl, rfl, e, ey, ok, hz, q⟩, k⟩ := h
  cases tx
  cases rx
  cases tv with
  | cons t ts =>
    cases ts
    obtain ⟨l, ws, rfl, hl, tw⟩ := lw_at ar t ey
    rw [L2.Vals.ref1 rv]
    obtain ⟨hsz, its, n, rl, hln, el⟩ := I.lstA hl
    obtain ⟨L, es, hL, hat, r1, r2⟩ := pairs_at I tw rl ok
    obtain ⟨es0, xs0, hH, p1, p2, hd, hm⟩ := dv_at I ar (show dv A p = some kvs by simp [dv, e])
    have hH : H p = some (.ext (RawN X.prog X.w p es0)) := by
      obtain ⟨es', h1, h2⟩ := ar p _ e
      rcases hH with hH | ⟨o, hH⟩
      · exact hH
      · rw [h1] at hH; cases hH
    have lL : L.length = prs.length := by
      have a1 := Paired.len r1
      have a2 := Paired.len r2
      rw [List.length_map] at a2
      omega
    have l0 : xs0.length = kvs.length := by
      have a1 := Paired.len p1
      have a2 := Paired.len p2
      omega
    -- the pairs as the library's argument
    have P := PairArg.list (prog := X.prog) (w := X.w) l its.toArray (fun j => (L.getD j (0, .none, 0, .none)).1) (L.map fun q => (Value.ref q.2.2.1, q.2.2.2))
    have hdp : ∃ o es ep, s.heap.get? p = some o ∧ o.data = .dict es ep := by
      obtain ⟨o, es', ep, h1, h2, h3, _⟩ := hm
      exact ⟨o, es', ep, h1, h3⟩
    have notp : ∀ j, j < L.length → (L.getD j (0, .none, 0, .none)).1 ≠ p := fun j hj he => by
      have hmem : L.getD j (0, .none, 0, .none) ∈ L := by
        rw [List.getD_eq_getElem?_getD, List.getElem?_eq_getElem hj]
        exact List.getElem_mem hj
      obtain ⟨o, ho, hcls⟩ := (hat _ hmem).1.there
      obtain ⟨o', es', ep, h1, h2, h3, _⟩ := hm
      rw [he, h1] at ho
      cases ho
      rcases hcls with hcls | hcls
      · rw [h2.1] at hcls; exact absurd hcls (by decide)
      · rw [h2.1] at hcls; exact absurd hcls (by decide)
    have items : PairItems s.heap its.toArray (fun j => (L.getD j (0, .none, 0, .none)).1) (L.map fun q => (Value.ref q.2.2.1, q.2.2.2)) := by
      refine ⟨by rw [List.size_toArray, hL, List.length_map, List.length_map], fun j kx vx hj => ?_⟩
      rw [List.getElem?_map] at hj
      cases e1 : L[j]? with
      | none => rw [e1] at hj; cases hj
      | some q0 =>
        rw [e1] at hj
        cases hj
        have e2 : L.getD j (0, .none, 0, .none) = q0 := by rw [List.getD_eq_getElem?_getD, e1]; rfl
        show its.toArray[j]? = some (Value.ref (L.getD j (0, .none, 0, .none)).1) ∧ PairAt s.heap (L.getD j (0, .none, 0, .none)).1 _ _
        rw [e2]
        refine ⟨?_, (hat q0 (List.mem_of_getElem? e1)).1⟩
        rw [hL, List.getElem?_toArray, List.getElem?_map, e1]
        rfl
    have km : KeepT H (upd H p (.ext (RawN X.prog X.w p (es.foldl (fun acc x => putN acc x.1 x.2.1 x.2.2) es0)))) := .mut hH trivial
    refine PySem.call_update_pairsH (knd := nestedKind X.prog X.w) (acc := xs0) (ps := L.map (·.2)) P (I.ok.hd hc) (by show X.A.units + 1 + 8 < cLine; omega) ⟨⟨_, n, el, rfl, rfl, rfl⟩, items⟩ ?_ ⟨by rw [List.length_map, List.length_map], fun i key vx hi => ?_⟩ ?_ hm (by rw [List.length_map, l0, lL]; exact hz) fun h' tk hm' hs => ?_
    · intro hmem
      rcases List.mem_cons.mp hmem with he | hmem
      · obtain ⟨o', es', ep, h1, h2, h3, _⟩ := hm
        rw [he] at h1
        rw [el] at h1
        cases h1
        cases h3
      · obtain ⟨j, hj, he⟩ := List.mem_map.mp hmem
        rw [List.mem_range, List.length_map] at hj
        exact notp j hj he
    · have hi' : (L.map fun q => (Value.ref q.2.2.1, q.2.2.2))[i]? = some (key, vx) := hi
      rw [List.getElem?_map] at hi'
      cases e1 : L[i]? with
      | none => rw [e1] at hi'; cases hi'
      | some q0 =>
        rw [e1] at hi'
        cases hi'
        exact ⟨q0.2.1, q0.2.2.1, by rw [List.getElem?_map, e1]; rfl, rfl⟩
    · intro h' hk x hx
      refine nestedKind_stays.but hdp h' (fun b o hb hw hh => hk b o hb hw hh) _ _ ?_
      rcases List.mem_append.mp hx with hx | hx
      · obtain ⟨o', es', ep, h1, h2, h3, h4, h5, h6⟩ := hm
        exact h5 x hx
      · obtain ⟨q0, hq0, rfl⟩ := List.mem_map.mp hx
        exact (hat q0 hq0).2
    · have hsame : Heap.SameBut p s.heap h' ∨ True := .inr trivial
      refine ⟨.non, _, I.write (t' := tk) (x := p) (e := p) (by rw [hH]; exact trivial) (.inl rfl) (fun b u hb hu => hs b u hb (fun q => nomatch q) hu) (by obtain ⟨o, _, _, h1, _⟩ := hm'; exact ⟨o, h1⟩) (raw_ok hd (putAll_n r2 p2) hm'), rfl,
        k _ _ _ _ q km (ar.put (od := .dct (putAll kvs prs)) km ⟨_, upd_same, (putAll_k r1 p1).mapQ fun p q z => ⟨z.1, z.2.1, z.2.2.1.keep km, z.2.2.2.keep km⟩⟩) .non⟩
end
end TL

/-! TR: what a def knows of the others. -/
namespace TL
open PySem PySem.Spec L2
section
variable (P : Program) (w : World) (K : PySem.W.Frag) (mg : Str → Option Value) (base : Heap)
/-- a def that may be called -/
def Cal (x : Str) (k : Nat) (ps : List Str) (sp : SpD) : Prop := ∃ f fd, mg x = some (.ref f) ∧ FnOk P w K mg base CX0 k f fd ps (lSp0 P w K sp) ∧ PySem.W.keepIn K (.ref f) = true ∧ Binds K fd ps []
/-- .. with keywords -/
def CalK (x : Str) (k n : Nat) (ks : List Str) (sp : SpD) : Prop := ∃ f fd ps gU, mg x = some (.ref f) ∧ FnOk P w K mg base CX0 k f fd ps (lSp0 P w K sp) ∧ PySem.W.keepIn K (.ref f) = true ∧ KBn K fd ps n ks gU (fun a b => a ++ b)
/-- .. with defaults -/
def CalD (x : Str) (k : Nat) (sp : SpD) (dds : List D) : Prop := ∃ f fd ps ds dvs, mg x = some (.ref f) ∧ FnOk P w K mg base CX0 k f fd ps (lSp0 P w K sp) ∧ PySem.W.keepIn K (.ref f) = true ∧ Binds K fd ps ds ∧ Vals dvs ds ∧ ∀ H, TVs K H dvs dds
/-- a constant of the module -/
def ConG (x : Str) (d : D) : Prop := ∃ u v, mg x = some u ∧ RelV v u ∧ ∀ K H, TV K H v d
/-- a dict of the module, text keys, whole numbers -/
def TabG (x : Str) (tab : List (Str × Int)) : Prop := ∃ a es n, mg x = some (.ref a) ∧ KDict K w a es n ∧ Paired RelTab es.toList tab
end
theorem bo_len : bootBuiltins "len" = some (.builtin "len") := by decide +kernel
theorem bo_abs : bootBuiltins "abs" = some (.builtin "abs") := by decide +kernel
theorem bo_max : bootBuiltins "max" = some (.builtin "max") := by decide +kernel
theorem bo_min : bootBuiltins "min" = some (.builtin "min") := by decide +kernel
theorem bo_sum : bootBuiltins "sum" = some (.builtin "sum") := by decide +kernel
theorem bo_all : bootBuiltins "all" = some (.builtin "all") := by decide +kernel
theorem bo_any : bootBuiltins "any" = some (.builtin "any") := by decide +kernel
theorem bo_sorted : bootBuiltins "sorted" = some (.builtin "sorted") := by decide +kernel
theorem bo_isinstance : bootBuiltins "isinstance" = some (.builtin "isinstance") := by decide +kernel
theorem bo_tuple : bootBuiltins "tuple" = some (.type "tuple") := by decide +kernel
theorem bo_list : bootBuiltins "list" = some (.type "list") := by decide +kernel
theorem bo_int : bootBuiltins "int" = some (.type "int") := by decide +kernel
theorem bo_str : bootBuiltins "str" = some (.type "str") := by decide +kernel
theorem bo_bool : bootBuiltins "bool" = some (.type "bool") := by decide +kernel
theorem bo_dict : bootBuiltins "dict" = some (.type "dict") := by decide +kernel
theorem bo_set : bootBuiltins "set" = some (.type "set") := by decide +kernel
/-! ### constants of the program -/
abbrev c_MOST_CELLS : D := .int 200
abbrev c_TOP : D := .int 7
abbrev c_EDGE : D := .int 9
abbrev c_MOST_WAIT : D := .int 1000
abbrev c_FIGURES : D := .str (Str.ofString "0123456789")
abbrev c_MOST_FIGURES : D := .int 4
abbrev c_WIDE : D := .int 10
abbrev c_BETWEEN : D := .str (Str.ofString "---")
def tab_PARTS : List (Str × Int) := [(Str.ofString "go", 3), (Str.ofString "lay", 3), (Str.ofString "up", 1), (Str.ofString "stuff", 2), (Str.ofString "wait", 2)]
end TL

/-! TS: a dict locked while it is walked; its keys. -/
namespace TL
open PySem PySem.Spec L2
/-! ### what stands through an unlocking -/
structure KeepL (H H' : Hp) : Prop where
  tup : ∀ a xs, H a = some (.tup xs) → H' a = some (.tup xs)
  ftup : ∀ a o xs, H a = some (.frz o (.tup xs)) → H' a = some (.frz o (.tup xs))
  flst : ∀ a o xs, H a = some (.frz o (.lst xs)) → H' a = some (.frz o (.lst xs))
section
variable {K : PySem.W.Frag} {H H' : Hp}
theorem SqT.keepL {a : Addr} {xs : List V} (k : KeepL H H') (h : SqT K H a xs) : SqT K H' a xs := by
  rcases h with (h | ⟨o, h⟩) | h
  · exact .inl (.inl (k.tup _ _ h))
  · exact .inl (.inr ⟨o, k.ftup _ _ _ h⟩)
  · exact .inr h
mutual
theorem TV.keepL (k : KeepL H H') : ∀ {v : V} {d : D}, TV K H v d → TV K H' v d
  | _, _, .non => .non
  | _, _, .bl b => .bl b
  | _, _, .int i => .int i
  | _, _, .str x => .str x
  | _, _, .tup h t => .tup (SqT.keepL k h) (TVs.keepL k t)
  | _, _, .lst ⟨o, h⟩ t => .lst ⟨o, k.flst _ _ _ h⟩ (TVs.keepL k t)
  | _, _, .ref a => .ref a
  | _, _, .scr h => .scr (h.elim (fun ⟨o, h⟩ => .inl ⟨o, k.flst _ _ _ h⟩) .inr)
theorem TVs.keepL (k : KeepL H H') : ∀ {vs : List V} {ds : List D}, TVs K H vs ds → TVs K H' vs ds
  | _, _, .nil => .nil
  | _, _, .cons h t => .cons (TV.keepL k h) (TVs.keepL k t)
end
theorem ER.keepL {σ : L2.St} {env : ED} (r : ER K H σ env) (k : KeepL H H') : ER K H' σ env := ⟨r.1, fun i d e => let ⟨v, h1, h2⟩ := r.2 i d e; ⟨v, h1, h2.keepL k⟩⟩
theorem OR.keepL {P : Program} {w : World} {a : Addr} {o : OD} (h : OR P w K H a o) (k : KeepL H H') (e : H' a = H a) : OR P w K H' a o := by
  cases o with
  | lst ds => obtain ⟨vs, h1, h2⟩ := h; exact ⟨vs, e.trans h1, h2.keepL k⟩
  | dct kvs => obtain ⟨vs, h1, h2⟩ := h; exact ⟨vs, e.trans h1, h2.mapQ fun p q z => ⟨z.1, z.2.1, z.2.2.1.keepL k, z.2.2.2.keepL k⟩⟩
  | dctL kvs => obtain ⟨o, vs, h1, h2⟩ := h; exact ⟨o, vs, e.trans h1, h2.mapQ fun p q z => ⟨z.1, z.2.1, z.2.2.1.keepL k, z.2.2.2.keepL k⟩⟩
  | dk kvs => obtain ⟨vs, h1, h2⟩ := h; exact ⟨vs, e.trans h1, h2.mapQ fun p q z => ⟨z.1, z.2.keepL k⟩⟩
  | dkL kvs => obtain ⟨o, vs, h1, h2⟩ := h; exact ⟨o, vs, e.trans h1, h2.mapQ fun p q z => ⟨z.1, z.2.keepL k⟩⟩
  | ins C fs => obtain ⟨dx, vs, h1, h2⟩ := h; exact ⟨dx, vs, e.trans h1, h2.mapQ fun p q z => ⟨z.1, z.2.keepL k⟩⟩
end
/-- the walked form of a dict -/
inductive LockO : OD → OD → Prop
  | dct (kvs) : LockO (.dct kvs) (.dctL kvs)
  | dk (kvs) : LockO (.dk kvs) (.dkL kvs)
section
variable {X : Cx} {H : Hp} {A : SD} {σ : L2.St} {env : ED}
theorem lock_up {p : Addr} {o o' : OD} (ar : ARx X A H) (h : A p = some o) (l : LockO o o') : ∃ u, H p = some u ∧ Mut (some u) ∧ ∀ od, KeepT H (upd H p (.frz od u)) ∧ ARx X (upA A p o') (upd H p (.frz od u)) ∧
    (∀ A' H', KeepT (upd H p (.frz od u)) H' → ARx X A' H' → H' p = some (.frz od u) ∧ KeepL H' (upd H' p u) ∧ KeepT H (upd H' p u) ∧ ARx X (upA A' p o) (upd H' p u)) := by
  have back : ∀ u, H p = some u → Mut (some u) → (∀ H', KeepT H H' → KeepL H' H' → H' p = some u → OR X.prog X.w X.K H' p o) → (∀ xs, u ≠ .lst xs) → ∀ od A' H', KeepT (upd H p (.frz od u)) H' → ARx X A' H' → H' p = some (.frz od u) ∧ KeepL H' (upd H' p u) ∧ KeepT H (upd H' p u) ∧ ARx X (upA A' p o) (upd H' p u) := by
    intro u hu mu hor nl od A' H' kk ar'
    have e : H' p = some (.frz od u) := kk.frz _ _ _ upd_same
    have kl : KeepL H' (upd H' p u) := ⟨fun a xs e1 => by rw [upd_ne (fun z => by rw [z, e] at e1; cases e1)]; exact e1, fun a o1 xs e1 => by rw [upd_ne (fun z => by rw [z, e] at e1; cases e1; exact mu)]; exact e1, fun a o1 xs e1 => by rw [upd_ne (fun z => by rw [z, e] at e1; cases e1; exact nl _ rfl)]; exact e1⟩
    have kt : KeepT H (upd H' p u) := ⟨fun a xs e1 => by
      have hne : a ≠ p := fun z => by rw [z, hu] at e1; cases e1; exact mu
      rw [upd_ne hne]; exact kk.tup _ _ (by rw [upd_ne hne]; exact e1), fun a o1 u1 e1 => by
      have hne : a ≠ p := fun z => by rw [z, hu] at e1; cases e1; exact mu
      rw [upd_ne hne]; exact kk.frz _ _ _ (by rw [upd_ne hne]; exact e1)⟩
    refine ⟨e, kl, kt, fun a oo ha => ?_⟩
    by_cases hap : a = p
    · subst hap
      rw [upA_same] at ha
      cases ha
      exact hor _ kt ⟨fun _ _ h => h, fun _ _ _ h => h, fun _ _ _ h => h⟩ upd_same
    · rw [upA_ne hap] at ha
      exact (ar' a oo ha).keepL kl (upd_ne hap)
  cases l with
  | dct kvs =>
    obtain ⟨es, h1, h2⟩ := ar p _ h
    refine ⟨_, h1, trivial, fun od => ?_⟩
    have km : KeepT H (upd H p (.frz od (.ext (RawN X.prog X.w p es)))) := .mut h1 trivial
    exact ⟨km, ar.put (od := .dctL kvs) km ⟨od, es, upd_same, h2.mapQ fun p q z => ⟨z.1, z.2.1, z.2.2.1.keep km, z.2.2.2.keep km⟩⟩, back _ h1 trivial (fun H' kt _ e => ⟨es, e, h2.mapQ fun p q z => ⟨z.1, z.2.1, z.2.2.1.keep kt, z.2.2.2.keep kt⟩⟩) (fun _ e => nomatch e) od⟩
  | dk kvs =>
    obtain ⟨vs, h1, h2⟩ := ar p _ h
    refine ⟨_, h1, trivial, fun od => ?_⟩
    have km : KeepT H (upd H p (.frz od (.dK vs))) := .mut h1 trivial
    exact ⟨km, ar.put (od := .dkL kvs) km ⟨od, vs, upd_same, RelKK.keep km h2⟩, back _ h1 trivial (fun H' kt _ e => ⟨vs, e, RelKK.keep kt h2⟩) (fun _ e => nomatch e) od⟩
/-- a statement while the dict at p is locked -/
def sLock (t : SW) : SW := fun D env A => ∃ p o o', A p = some o ∧ LockO o o' ∧ t { nx := fun env' A' => D.nx env' (upA A' p o), rt := fun d A' => D.rt d (upA A' p o), bk := fun env' A' => D.bk env' (upA A' p o), ct := fun env' A' => D.ct env' (upA A' p o) } env (upA A p o')
def eLock (t : EW) : EW := fun env A Q => ∃ p o o', A p = some o ∧ LockO o o' ∧ t env (upA A p o') fun d A' => Q d (upA A' p o)
theorem xlock {st : Stmt} {t : SW} (h : PS X st (lS X t)) : PS X st (lS X (sLock t)) := PS.imp (ps_lock h) fun D σ H h => by
  obtain ⟨env, A, D', er, ar, ⟨p, o, o', ha, l, ht⟩, k1, k2, k3, k4⟩ := h
  obtain ⟨u, hu, mu, f⟩ := lock_up ar ha l
  refine ⟨p, u, hu, mu, fun od => ?_⟩
  obtain ⟨km, ar1, bk⟩ := f od
  refine ⟨env, _, _, er.keep km, ar1, ht, fun env' A' σ' H' q kk er' ar' => ?_, fun d A' v H' q kk ar' tv => ?_, fun env' A' σ' H' q kk er' ar' => ?_, fun env' A' σ' H' q kk er' ar' => ?_⟩
  · obtain ⟨e, kl, kt, ar2⟩ := bk A' H' kk ar'
    exact ⟨e, k1 _ _ _ _ q kt (er'.keepL kl) ar2⟩
  · obtain ⟨e, kl, kt, ar2⟩ := bk A' H' kk ar'
    exact ⟨e, k2 _ _ _ _ q kt ar2 (tv.keepL kl)⟩
  · obtain ⟨e, kl, kt, ar2⟩ := bk A' H' kk ar'
    exact ⟨e, k3 _ _ _ _ q kt (er'.keepL kl) ar2⟩
  · obtain ⟨e, kl, kt, ar2⟩ := bk A' H' kk ar'
    exact ⟨e, k4 _ _ _ _ q kt (er'.keepL kl) ar2⟩
theorem xlockE {ex : Expr} {t : EW} (h : PE X ex (lE X t)) : PE X ex (lE X (eLock t)) := PE.imp (pe_lock h) fun σ H Q h => by
  obtain ⟨env, A, Q', er, ar, ⟨p, o, o', ha, l, ht⟩, k⟩ := h
  obtain ⟨u, hu, mu, f⟩ := lock_up ar ha l
  refine ⟨p, u, hu, mu, fun od => ?_⟩
  obtain ⟨km, ar1, bk⟩ := f od
  refine ⟨env, _, _, er.keep km, ar1, ht, fun d A' v H' q kk ar' tv => ?_⟩
  obtain ⟨e, kl, kt, ar2⟩ := bk A' H' kk ar'
  exact ⟨e, k _ _ _ _ q kt ar2 (tv.keepL kl)⟩
end
/-! ### the keys of a locked dict -/
def ItR (d : Addr) (o : Obj) (es : Array DictEntry) : It := ⟨fun i H => (∃ u, H d = some (.frz o u)) ∧ i < es.size, fun i H x H' => H' = H ∧ ∃ e, es[i]? = some e ∧ RelV x e.key, fun i H => (∃ u, H d = some (.frz o u)) ∧ es.size ≤ i⟩
theorem frz_obj {X : Cx} {pins : List (Addr × Obj)} {σ : L2.St} {H : Hp} {s : Shared} {d : Addr} {o : Obj} {u : HO} (I : Inv X pins σ H s) (h : H d = some (.frz o u)) : s.heap.get? d = some o := (I.hok d _ h).1
theorem turn_raw {P : Program} {w : World} {K : PySem.W.Frag} {tg : Expr} {d : Addr} {o : Obj} {es : Array DictEntry} {ep : Nat} (it : Addr) (hod : o.data = .dict es ep) (hv : ∀ e ∈ es.toList, ∃ x, RelV x e.key) : Turn P w K tg (ItR d o es) [it] it (fun i h => h.IsKeyIter it d i es.size ep) where
  mem := by simp
  obj := fun i h st b hb => by
    have e : b = it := by simpa using hb
    subst e
    obtain ⟨oi, e, c, dd⟩ := st
    exact ⟨oi, e, fun v z => by rw [dd] at z; cases z⟩
  keep := fun i h h' st k => st.at fun oi e => k it (by simp) oi e
  item := by
    intro X hP hw hK hc i pins s σ H E I hf st hg
    subst hP hw hK
    obtain ⟨⟨u, hd⟩, hi⟩ := hg
    obtain ⟨f0, f1, f2, f3, f4, f5⟩ := hf it (by simp)
    have hgd := frz_obj I hd
    have hx : es[i]? = some es[i] := Array.getElem?_eq_getElem hi
    refine next_key_item st hgd hod rfl hx fun h' st' sb => ?_
    have I1 : Inv X pins σ H { s with heap := h' } := I.turned (t' := s.toks) (fun b ob hb e => (sb.2 b hb).trans e) f0 f1 f3 f4 f5
    obtain ⟨oi, e, c, dd⟩ := id st'
    obtain ⟨x, rx⟩ := hv es[i] (by simp)
    exact ⟨_, rfl, go_of (s := { s with heap := h' }) e c dd (by decide) ⟨x, H, I1, rx, ⟨rfl, _, hx, rx⟩, st', fun b hb => (hf b hb).1⟩⟩
  done := by
    intro X hP hw hK hc i pins s σ H E I hf st hg
    subst hP hw hK
    obtain ⟨⟨u, hd⟩, hi⟩ := hg
    obtain ⟨f0, f1, f2, f3, f4, f5⟩ := hf it (by simp)
    exact next_key_end (I.ok.hd hc) st (frz_obj I hd) hod rfl hi fun h' eb => ⟨rfl, I.turned (t' := s.toks) (fun b ob hb e => eb b ob hb e) f0 f1 f3 f4 f5⟩
  self := fun A i s Q E st h => wpAny_pyIter_keyiter st h
/-- the keys of a dict with tuple keys, locked -/
def iKeys (e : EW) : IW := fun env A Q => e env A fun d A1 => ∃ p kvs, d = .ref p ∧ A1 p = some (.dctL kvs) ∧ kvs.length ≤ sizeLine ∧ Q (kvs.map (·.1)) (fun A' => A' p = some (.dctL kvs)) A1
section
variable {X : Cx} {tg : Expr}
theorem xikeys {e : Expr} {t : EW} (he : PE X e (lE X t)) : PI X tg e (lI X (TL.iKeys t)) := by
  refine ⟨fun pins s σ H R I h => ?_⟩
  obtain ⟨env, A, Q', er, ar, h2, k⟩ := h
  refine thn (lI.run1 (Q := fun _ _ _ => False) he I er ar h2) fun u s1 ⟨v, H1, d, A1, I1, r1, k1, ar1, tv1, p, kvs, e1, ha, hz, q1⟩ => ?_
  subst e1
  cases tv1
  cases r1
  obtain ⟨es, xs, hH, p1, p2, hd, hm⟩ := dv_at I1 ar1 (show dv A1 p = some kvs by simp [dv, ha])
  obtain ⟨o, es0, h1, h2⟩ := ar1 p _ ha
  have ho := frz_obj I1 h1
  obtain ⟨es', ep, hr, hs, hi⟩ := hm.raw
  obtain ⟨o', ho', hex, hdat⟩ := hr
  rw [ho] at ho'
  cases ho'
  have l1 := Paired.len p1
  have l2 := Paired.len p2
  have key : ∀ (i : Nat) (kv : D × D), kvs[i]? = some kv → ∃ a e, es'[i]? = some e ∧ e.key = .ref a ∧ TV X.K H1 (.ref a) kv.1 := by
    intro i kv hkv
    have hik : i < kvs.length := (List.getElem?_eq_some_iff.mp hkv).1
    obtain ⟨x, hx, rx⟩ := paired_get p1 hkv
    obtain ⟨y, hy, ry⟩ := paired_get p2 hx
    obtain ⟨z, hz1, e1, e2, e3⟩ := hi i (by omega)
    rw [hy] at hz1
    cases hz1
    exact ⟨_, _, Array.getElem?_eq_getElem (by omega), by rw [e1, ← ry.2.1], rx.2.2.1⟩
  refine iter_keys hd ho hex hdat (pi_one (tk := s1.toks) I1 _ (turn_raw (o := o) (es := es') _ hdat ?_) ⟨_, Heap.get?_push_size _ rfl, rfl, rfl⟩ ?_)
  · intro en hen
    obtain ⟨i, hi1, hi2⟩ := List.mem_iff_getElem.mp hen
    have hi3 : i < es'.size := by simpa using hi1
    obtain ⟨z, hz1, e1, e2, e3⟩ := hi i hi3
    have : en = es'[i] := by rw [← hi2]; simp
    rw [this, e1]
    exact ⟨.ref _, rfl⟩
  · refine k _ _ _ _ _ q1 k1 ar1 ⟨by rw [List.length_map]; exact hz, fun i d H A kk ar g hx => ?_, fun H A kk ar g => ?_⟩
    · rw [List.getElem?_map] at hx
      cases e : kvs[i]? with
      | none => rw [e] at hx; cases hx
      | some kv =>
        rw [e] at hx
        cases hx
        obtain ⟨a, en, h1', h2', h3'⟩ := key i kv e
        have hlt : i < es'.size := (Array.getElem?_eq_some_iff.mp h1').1
        refine ⟨⟨⟨_, kk.frz _ _ _ h1⟩, hlt⟩, fun x H' hy => ?_⟩
        obtain ⟨rfl, e', he', rx⟩ := hy
        rw [h1'] at he'
        cases he'
        rw [h2'] at rx
        have : x = .ref a := by
          cases x with
          | ref b => cases rx; rfl
          | _ => first | (obtain ⟨_, rx⟩ := rx; cases rx) | cases rx
        subst this
        exact ⟨.refl _, ar, h3'.keep kk⟩
    · refine ⟨⟨_, kk.frz _ _ _ h1⟩, ?_⟩
      rw [List.length_map]
      omega
end
end TL

/-! TW: readings unfolded, loops by what stands at every turn. -/
namespace TL
open PySem PySem.Spec L2
section
variable {env : ED} {A : SD} {Q : QD} {De : EndD} {a b c : EW} {ta tb : TW} {r : RD} {wa wb : SW}
@[simp] theorem w_var {i : Nat} : eVar i env A Q = ∃ d, env[i]? = some (some d) ∧ Q d A := rfl
@[simp] theorem w_c {d : D} : eC d env A Q = Q d A := rfl
@[simp] theorem w_op : eOp r a b env A Q = a env A fun x A1 => b env A1 fun y A2 => r x y A2 Q := rfl
@[simp] theorem w_val {QT : Bool → SD → Prop} : tVal a env A QT = a env A fun d A1 => ∃ b, d = .bl b ∧ QT b A1 := rfl
@[simp] theorem w_and' {QT : Bool → SD → Prop} : tAnd' ta tb env A QT = ta env A fun c A1 => if c = true then tb env A1 QT else QT false A1 := rfl
@[simp] theorem w_or' {QT : Bool → SD → Prop} : tOr' ta tb env A QT = ta env A fun c A1 => if c = true then QT true A1 else tb env A1 QT := rfl
@[simp] theorem w_not' {QT : Bool → SD → Prop} : tNot' ta env A QT = ta env A fun c A1 => QT (!c) A1 := rfl
@[simp] theorem w_and : eAnd a b env A Q = a env A fun d A1 => ∃ c, d = .bl c ∧ if c = true then b env A1 Q else Q (.bl false) A1 := rfl
@[simp] theorem w_or : eOr a b env A Q = a env A fun d A1 => ∃ c, d = .bl c ∧ if c = true then Q (.bl true) A1 else b env A1 Q := rfl
@[simp] theorem w_not : eNot a env A Q = a env A fun d A1 => ∃ c, d = .bl c ∧ Q (.bl (!c)) A1 := rfl
@[simp] theorem w_if : eIf ta a b env A Q = ta env A fun c A1 => if c = true then a env A1 Q else b env A1 Q := rfl
@[simp] theorem w_chain {r' : RD} : eChain r r' a b c env A Q = a env A fun x A1 => b env A1 fun y A2 => r x y A2 fun z A3 => ∃ k, z = .bl k ∧ if k = true then c env A3 fun w A4 => r' y w A4 Q else Q (.bl false) A3 := rfl
@[simp] theorem w_nil : sNil De env A = De.nx env A := rfl
@[simp] theorem w_seq : sSeq wa wb De env A = wa { nx := wb De, rt := De.rt, bk := De.bk, ct := De.ct } env A := rfl
@[simp] theorem w_brk : sBrk De env A = De.bk env A := rfl
@[simp] theorem w_cont : sCont De env A = De.ct env A := rfl
@[simp] theorem w_expr : sExpr a De env A = a env A fun _ A1 => De.nx env A1 := rfl
@[simp] theorem w_ret : sRet a De env A = a env A De.rt := rfl
@[simp] theorem w_retN : sRetN De env A = De.rt .non A := rfl
@[simp] theorem w_sif : sIf ta wa wb De env A = ta env A fun c A1 => if c = true then wa De env A1 else wb De env A1 := rfl
@[simp] theorem w_never : sNever De env A = False := rfl
@[simp] theorem w_set {i : Nat} : sSet i a De env A = a env A fun d A1 => De.nx (env.set i (some d)) A1 := rfl
@[simp] theorem w_asg {g : GW} : sAsg a g De env A = a env A fun d A1 => g d env A1 De.nx := rfl
@[simp] theorem w_par {i j : Nat} {t : AW} : sPar i j t De env A = t env A fun ds A1 => ∃ x y, ds = [x, y] ∧ De.nx ((env.set i (some x)).set j (some y)) A1 := rfl
@[simp] theorem w_par3 {i j l : Nat} {t : AW} : sPar3 i j l t De env A = t env A fun ds A1 => ∃ x y z, ds = [x, y, z] ∧ De.nx (((env.set i (some x)).set j (some y)).set l (some z)) A1 := rfl
@[simp] theorem w_aug {i : Nat} {g : Int → Int → Int} : sAug i g a De env A = ∃ n, env[i]? = some (some (.int n)) ∧ a env A fun d A1 => ∃ m, d = .int m ∧ De.nx (env.set i (some (.int (g n m)))) A1 := rfl
@[simp] theorem w_gvar {i : Nat} {d : D} {QG : ED → SD → Prop} : gVar i d env A QG = QG (env.set i (some d)) A := rfl
@[simp] theorem w_gsnil {ds : List D} {QG : ED → SD → Prop} : gsNil ds env A QG = (ds = [] ∧ QG env A) := rfl
@[simp] theorem w_gscons {g : GW} {gs : GsW} {ds : List D} {QG : ED → SD → Prop} : gsCons g gs ds env A QG = ∃ d ds', ds = d :: ds' ∧ g d env A fun env' A' => gs ds' env' A' QG := rfl
@[simp] theorem w_gtup {n : Nat} {gs : GsW} {d : D} {QG : ED → SD → Prop} : gTup' n gs d env A QG = ∃ ds, d = .tup ds ∧ ds.length = n ∧ gs ds env A QG := rfl
@[simp] theorem w_gsub {rd : WD} {d : D} {QG : ED → SD → Prop} : gSub' a b rd d env A QG = a env A fun o A1 => b env A1 fun i A2 => rd o i d A2 fun A3 => QG env A3 := rfl
@[simp] theorem w_anil {QA : List D → SD → Prop} : aNil env A QA = QA [] A := rfl
@[simp] theorem w_acons {t : AW} {QA : List D → SD → Prop} : aCons a t env A QA = a env A fun d A1 => t env A1 fun ds A2 => QA (d :: ds) A2 := rfl
@[simp] theorem w_tup {t : AW} : eTup t env A Q = t env A fun ds A1 => ds.length ≤ sizeLine ∧ Q (.tup ds) A1 := rfl
@[simp] theorem w_lst {t : AW} : eLst t env A Q = t env A fun ds A1 => ds.length ≤ sizeLine ∧ Q (.lst ds) A1 := rfl
@[simp] theorem w_new {t : AW} : eNew t env A Q = t env A fun ds A1 => ds.length ≤ sizeLine ∧ ∀ p, A1 p = none → Q (.ref p) (upA A1 p (.lst ds)) := rfl
@[simp] theorem w_frz : eFrz a env A Q = a env A fun d A1 => ∃ p ds, d = .ref p ∧ A1 p = some (.lst ds) ∧ Q (.lst ds) (drop A1 p) := rfl
@[simp] theorem w_call {sp : SpD} {t : AW} : eCall sp t env A Q = t env A fun ds A1 => sp ds A1 Q := rfl
@[simp] theorem w_callD {sp : SpD} {dds : List D} {t : AW} : eCallD sp dds t env A Q = t env A fun ds A1 => sp (ds ++ dds) A1 Q := rfl
@[simp] theorem w_callK {sp : SpD} {n m : Nat} {g : List D → List D → List D} {t tk : AW} : eCallK sp n m g t tk env A Q = t env A fun ds A1 => tk env A1 fun es A2 => ds.length = n ∧ es.length = m ∧ sp (g ds es) A2 Q := rfl
@[simp] theorem w_m0 {T : String} {rd : MD} : eM0 T rd a env A Q = a env A fun x A1 => tyM A1 x = T ∧ rd x [] A1 Q := rfl
@[simp] theorem w_m {T : String} {rd : MD} {t : AW} : eM T rd a t env A Q = a env A fun x A1 => tyM A1 x = T ∧ t env A1 fun ds A2 => rd x ds A2 Q := rfl
@[simp] theorem w_isi {T : String} : eIsi a T env A Q = a env A fun d A1 => tyD A1 d ≠ "" ∧ ∃ b, kitB (tyD A1 d) T = some b ∧ Q (.bl b) A1 := rfl
@[simp] theorem w_for {w : IW} {g : GW} {body : SW} : sFor w g body De env A = w env A fun ds G A1 => ds.length ≤ sizeLine → forGo G g body ds De env A1 := rfl
@[simp] theorem w_lc {w : IW} {g : GW} {tt : TW} {te : EW} {vs : List Nat} : eLc w g tt te vs env A Q = w env A fun ds G A1 => ds.length ≤ sizeLine → ∀ p, A1 p = none → lcGo p G g tt te (wipeE env vs) ds (upA A1 p (.lst [])) fun acc A' => Q (.lst acc) (drop A' p) := rfl
@[simp] theorem w_lcM {w : IW} {g : GW} {tt : TW} {te : EW} {vs : List Nat} : eLcM w g tt te vs env A Q = w env A fun ds G A1 => ds.length ≤ sizeLine → ∀ p, A1 p = none → lcGo p G g tt te (wipeE env vs) ds (upA A1 p (.lst [])) fun _ A' => Q (.ref p) A' := rfl
@[simp] theorem w_yes {QT : Bool → SD → Prop} : tYesE env A QT = QT true A := rfl
@[simp] theorem w_seqI {QI : List D → (SD → Prop) → SD → Prop} : iSeq a env A QI = a env A fun d A1 => ∃ ds, qv A1 d = some ds ∧ QI ds (fun A' => qv A' d = some ds) A1 := rfl
@[simp] theorem w_rng1 {t : AW} {QI : List D → (SD → Prop) → SD → Prop} : iRng1 t env A QI = t env A fun ds A1 => ∃ n, ds = [.int n] ∧ -(2 ^ 62) ≤ n ∧ n.toNat ≤ sizeLine ∧ QI (intsD 0 1 n.toNat) (fun _ => True) A1 := rfl
@[simp] theorem w_rng2 {t : AW} {QI : List D → (SD → Prop) → SD → Prop} : iRng2 t env A QI = t env A fun ds A1 => ∃ a b, ds = [.int a, .int b] ∧ (-(2 ^ 62) ≤ a ∧ a < 2 ^ 62 ∧ -(2 ^ 62) ≤ b ∧ b < 2 ^ 62) ∧ (b - a).toNat ≤ sizeLine ∧ QI (intsD a 1 (b - a).toNat) (fun _ => True) A1 := rfl
@[simp] theorem w_enum {t : AW} {QI : List D → (SD → Prop) → SD → Prop} : iEnum t env A QI = t env A fun ds A1 => ∃ d xs, ds = [d] ∧ kv A1 d = some xs ∧ xs.length ≤ sizeLine ∧ QI (enumD xs) (fun A' => kv A' d = some xs) A1 := rfl
@[simp] theorem w_zip {t : AW} {QI : List D → (SD → Prop) → SD → Prop} : iZip' t env A QI = t env A fun ds A1 => ∃ d e xs ys, ds = [d, e] ∧ kv A1 d = some xs ∧ kv A1 e = some ys ∧ xs.length ≤ sizeLine ∧ QI (zipD xs ys) (fun A' => kv A' d = some xs ∧ kv A' e = some ys) A1 := rfl
@[simp] theorem w_istr {QI : List D → (SD → Prop) → SD → Prop} : iStr' a env A QI = a env A fun d A1 => ∃ x, d = .str x ∧ x.length ≤ sizeLine ∧ QI (chars x) (fun _ => True) A1 := rfl
@[simp] theorem w_keys {QI : List D → (SD → Prop) → SD → Prop} : TL.iKeys a env A QI = a env A fun d A1 => ∃ p kvs, d = .ref p ∧ A1 p = some (.dctL kvs) ∧ kvs.length ≤ sizeLine ∧ QI (kvs.map (·.1)) (fun A' => A' p = some (.dctL kvs)) A1 := rfl
@[simp] theorem w_sl {lo hi : OW} : eSl a lo hi env A Q = a env A fun x A1 => lo env A1 fun l A2 => hi env A2 fun u A3 => rSl x l u A3 Q := rfl
@[simp] theorem w_on {QO : Option Int → SD → Prop} : oNone env A QO = QO none A := rfl
@[simp] theorem w_os {QO : Option Int → SD → Prop} : oSome a env A QO = a env A fun d A1 => ∃ i, d = .int i ∧ QO (some i) A1 := rfl
@[simp] theorem w_dctnew : eDctNew env A Q = ∀ p, A p = none → Q (.ref p) (upA A p (.dct [])) := rfl
@[simp] theorem w_modg {tab : List (Str × Int)} : eModG tab a b env A Q = a env A fun y A1 => b env A1 fun z A2 => ∃ x z', [y, z] = [.str x, z'] ∧ Q (modV tab x z') A2 := rfl
/-! operators -/
@[simp] theorem r_addI {i j : Int} : rAdd' (.int i) (.int j) A Q = Q (.int (i + j)) A := rfl
@[simp] theorem r_addS {i j : Str} : rAdd' (.str i) (.str j) A Q = (i.length + j.length ≤ sizeLine ∧ Q (.str (i ++ j)) A) := rfl
@[simp] theorem r_addT {i j : List D} : rAdd' (.tup i) (.tup j) A Q = (i.length + j.length ≤ sizeLine ∧ Q (.tup (i ++ j)) A) := rfl
@[simp] theorem r_int {C : Int → Int → Prop} {g : Int → Int → Int} {i j : Int} : rInt C g (.int i) (.int j) A Q = (C i j ∧ Q (.int (g i j)) A) := rfl
@[simp] theorem r_int0 {g : Int → Int → Int} {i j : Int} : rInt0 g (.int i) (.int j) A Q = Q (.int (g i j)) A := rfl
@[simp] theorem r_cmp {g : Int → Int → Bool} {i j : Int} : rCmpI g (.int i) (.int j) A Q = Q (.bl (g i j)) A := rfl
@[simp] theorem r_eq {x y : D} : rEq' x y A Q = (okE (vw A x) = true ∧ okE (vw A y) = true ∧ Q (.bl (decide (vw A x = vw A y))) A) := rfl
@[simp] theorem r_ne {x y : D} : rNe' x y A Q = (okE (vw A x) = true ∧ okE (vw A y) = true ∧ Q (.bl (!decide (vw A x = vw A y))) A) := rfl
@[simp] theorem r_in {x y : D} : rIn' x y A Q = ∃ ys, sv A y = some ys ∧ okE x = true ∧ ys.all (ok 15) = true ∧ Q (.bl (decide (x ∈ ys))) A := rfl
@[simp] theorem r_notin {x y : D} : rNotIn' x y A Q = ∃ ys, sv A y = some ys ∧ okE x = true ∧ ys.all (ok 15) = true ∧ Q (.bl (!decide (x ∈ ys))) A := rfl
@[simp] theorem r_idx {x y : D} : rIdx x y A Q = ∃ i, y = .int i ∧ ((∃ ds d, qv A x = some ds ∧ atI ds i = some d ∧ Q d A) ∨ ∃ z c, x = .str z ∧ z.length ≤ sizeLine ∧ atI z.cps.toList i = some c ∧ Q (.str ⟨#[c]⟩) A) := rfl
@[simp] theorem r_wlst {o i x : D} {QS : SD → Prop} : wLst o i x A QS = ∃ p n ds j, o = .ref p ∧ i = .int n ∧ A p = some (.lst ds) ∧ ixN ds.length n = some j ∧ QS (upA A p (.lst (ds.set j x))) := rfl
end
/-! ### loops -/
theorem for_inv {G : SD → Prop} {g : GW} {body : SW} {De : EndD} {ds : List D} (I : Nat → ED → SD → Prop)
    (step : ∀ (i : Nat) (d : D) (N : ED → SD → Prop), ds[i]? = some d → (∀ e a, I (i + 1) e a → N e a) → ∀ env A, I i env A → G A ∧ g d env A fun env1 A1 => body { nx := N, rt := De.rt, bk := De.nx, ct := N } env1 A1)
    (hend : ∀ env A, I ds.length env A → G A ∧ De.nx env A) {env : ED} {A : SD} (h0 : I 0 env A) : forGo G g body ds De env A := by
  have gen : ∀ (m i : Nat), i + m = ds.length → ∀ env A, I i env A → forGo G g body (ds.drop i) De env A := by
    intro m
    induction m with
    | zero =>
      intro i hi env A h
      have : i = ds.length := by omega
      subst this
      rw [List.drop_length]
      exact hend env A h
    | succ m ih =>
      intro i hi env A h
      have hl : i < ds.length := by omega
      rw [List.drop_eq_getElem_cons hl]
      obtain ⟨h1, h2⟩ := step i ds[i] (forGo G g body (ds.drop (i + 1)) De) (List.getElem?_eq_getElem hl) (fun e a he => ih (i + 1) (by omega) e a he) env A h
      exact ⟨h1, h2⟩
  have := gen ds.length 0 (by omega) env A h0
  simpa using this
theorem lc_inv {p : Addr} {G : SD → Prop} {g : GW} {tt : TW} {te : EW} {env0 : ED} {ds : List D} {Q : List D → SD → Prop} (I : Nat → List D → SD → Prop) (hp : ∀ i acc A, I i acc A → A p = some (.lst acc)) (hz : ds.length ≤ sizeLine)
    (step : ∀ (i : Nat) (d : D) (acc : List D) (A : SD) (Ny : D → SD → Prop) (Nn : SD → Prop), ds[i]? = some d → I i acc A → (∀ y A3, A3 p = some (.lst acc) → I (i + 1) (acc ++ [y]) (upA A3 p (.lst (acc ++ [y]))) → Ny y A3) → (∀ A2, I (i + 1) acc A2 → Nn A2) →
      G A ∧ g d env0 A fun env1 A1 => tt env1 A1 fun b A2 => if b = true then te env1 A2 Ny else Nn A2)
    (hend : ∀ acc A, I ds.length acc A → acc.length ≤ ds.length → G A ∧ Q acc A) {A : SD} (h0 : I 0 [] A) : lcGo p G g tt te env0 ds A Q := by
  have gen : ∀ (m i : Nat), i + m = ds.length → ∀ acc A, acc.length ≤ i → I i acc A → lcGo p G g tt te env0 (ds.drop i) A Q := by
    intro m
    induction m with
    | zero =>
      intro i hi acc A hl h
      have : i = ds.length := by omega
      subst this
      rw [List.drop_length]
      obtain ⟨h1, h2⟩ := hend acc A h hl
      exact ⟨h1, acc, hp _ _ _ h, h2⟩
    | succ m ih =>
      intro i hi acc A hacc h
      have hl : i < ds.length := by omega
      rw [List.drop_eq_getElem_cons hl]
      refine step i ds[i] acc A _ _ (List.getElem?_eq_getElem hl) h (fun y A3 e hI => ?_) (fun A2 hI => ih (i + 1) (by omega) acc A2 (by omega) hI)
      exact ⟨acc, e, by omega, ih (i + 1) (by omega) _ _ (by simp; omega) hI⟩
  have := gen ds.length 0 (by omega) [] A (by simp) h0
  simpa using this
theorem while_inv {c : TW} {body : SW} {De : EndD} (I : Nat → ED → SD → Prop)
    (step : ∀ (n : Nat) (N : ED → SD → Prop), (∀ m e a, m < n → I m e a → N e a) → ∀ env A, I n env A → c env A fun b A1 => if b = true then body { nx := N, rt := De.rt, bk := De.nx, ct := N } env A1 else De.nx env A1)
    {n : Nat} {env : ED} {A : SD} (h0 : I n env A) : sWhile c body De env A := by
  have gen : ∀ n, ∀ env A, I n env A → whileGo c body (n + 1) De env A := by
    intro n
    induction n using Nat.strongRecOn with
    | _ n ih =>
      intro env A h
      exact .inr (step n (whileGo c body n De) (fun m e a hm hI => whileGo_up (by omega) (ih m hm e a hI)) env A h)
  exact ⟨n + 1, gen n env A h0⟩
end TL
namespace TL
open PySem PySem.Spec L2
/-- the store that is left may forget things -/
def subQ (Q : QD) : QD := fun d A2 => ∃ B : SD, (∀ a o, B a = some o → A2 a = some o) ∧ Q d B
theorem subQ.same {Q : QD} {d : D} {A : SD} (h : Q d A) : subQ Q d A := ⟨A, fun _ _ h => h, h⟩
section
variable {P : Program} {w : World} {K : PySem.W.Frag} {mg : Str → Option Value} {base : Heap}
theorem def_okS {x qual : Str} {params : Arguments} {body : List Stmt} {scope : Scope} {dvs : List V} {kws : List (Str × V)} {f : Addr} {fd : FuncData} {N ps : List Str} {k : Nat} {sp : SpD} {W : SW} (F : FunD K x qual params body scope dvs kws f fd) (S : FnScope N ps scope)
    (hw : ∀ ds A Q, sp ds A Q → ds.length = ps.length ∧ W { nx := fun _ A' => subQ Q .non A', rt := subQ Q } (startD N.length ds) A)
    (hbody : ∀ (cdv : Value) (A : Around) (outer : List Env) (s : Shared) (H : Hp) (E : XK), Room k (A.deeper (PyProof.Rows.envOfC qual scope s.heap.objs.size f cdv)) → PSs (cxOf CX0 P w K mg base N qual scope f cdv A outer s H E).nox body (lS0 P w K W)) : FnOk P w K mg base CX0 (k + 1) f fd ps (lSp0 P w K sp) := by
  refine F.ok S (fun vs H Q E h => ?_) fun cdv A outer s H vs Q E hr h => ?_
  · obtain ⟨ds, A, Q', tv, ar, h, k⟩ := h
    rw [tv.length]
    exact (hw ds A Q' h).1
  · obtain ⟨ds, A', Q', tv, ar, h, kk⟩ := h
    refine ⟨_, PSs.nox (hbody cdv A outer s H E hr), ?_⟩
    exact ⟨_, A', _, ER.start N tv, ar, (hw ds A' Q' h).2, fun env' A2 σ' H' ⟨B, hB, q⟩ k1 er ar2 => kk _ B _ _ q k1 (ar2.less hB) .non, fun d A2 v H' ⟨B, hB, q⟩ k1 ar2 tv2 => kk _ B _ _ q k1 (ar2.less hB) tv2, fun _ _ _ _ h => h.elim, fun _ _ _ _ h => h.elim⟩
end
end TL

/-! TX: what the head tells: defaults that are the empty tuple, dicts of the module. -/
namespace TL
open PySem PySem.Spec L2
/-- where the keyword default y of the def x stands -/
def kwAt (x y : Str) (K : PySem.W.Frag) : Addr := match K.lookup (He.ga K x) with
  | some ⟨_, _, .func fd, _⟩ => (match fd.kwdefaults with
    | .ref d => (match PySem.W.nsIn K d y with
      | some (some (.ref a)) => a
      | _ => 0)
    | _ => 0)
  | _ => 0
/-- the empty tuple stands there -/
def tup0 (K : PySem.W.Frag) (a : Addr) : Bool := match K.lookup a with
  | some ⟨.type c, _, .seq its _, _⟩ => decide (c = "tuple") && its.isEmpty
  | _ => false
theorem tup0_ok {K : PySem.W.Frag} {a : Addr} (h : tup0 K a = true) {H : Hp} : TV K H (.ref a) (.tup []) := by
  unfold tup0 at h
  split at h
  · rename_i c d its n sl e
    rw [Bool.and_eq_true] at h
    have h1 : its = #[] := Array.isEmpty_iff.mp h.2
    subst h1
    exact .tup (.inr ⟨_, #[], n, e, congrArg Value.type (of_decide_eq_true h.1), rfl, Nat.zero_le _, .nil⟩) .nil
  · cases h
section
variable {K : PySem.W.Frag} {x qual : Str} {params : Arguments} {body : List Stmt} {scope : Scope} {kws : List (Str × V)} {f : Addr} {fd : FuncData} {ps ks : List Str} {n : Nat}
/-- all keywords given -/
theorem kbn_of (F : FunD K x qual params body scope [] kws f fd) (h : ∀ (kV doc pm : Value) (an : Option Addr) (cdv ct : Value) (us ws : List Value), us.length = n → ws.length = ks.length → bindArgs (PySem.W.fnOf x qual params body scope .none kV doc pm an cdv ct) ⟨us, ks.zip ws⟩ = pure (ps.zip (us ++ ws))) :
    KBn K fd ps n ks (fun a b => a ++ b) (fun a b => a ++ b) := by
  obtain ⟨oc, od, dV, kV, doc, pm, an, cdv, ct, osl, rfl, lk, hcd, hD, hK⟩ := F.ex
  rcases hD with ⟨_, rfl⟩ | ⟨e, _⟩
  · exact ⟨fun s us ws _ h1 h2 => .of_eq (h kV doc pm an cdv ct us ws h1 h2), fun r1 r2 => r1.append r2⟩
  · exact absurd rfl e
end
def relTabB : List DictEntry → List (Str × Int) → Bool
  | [], [] => true
  | e :: es, kv :: tab => (match e.key with | .str x _ => decide (x = kv.1) | _ => false) && ((match e.val with | .int i _ => decide (i = kv.2) | _ => false) && relTabB es tab)
  | _, _ => false
theorem relTab_ok : ∀ {es : List DictEntry} {tab : List (Str × Int)}, relTabB es tab = true → Paired RelTab es tab
  | [], [], _ => .nil
  | [], _ :: _, h => by cases h
  | _ :: _, [], h => by cases h
  | e :: es, kv :: tab, h => by
    obtain ⟨h1, h2⟩ := Bool.and_eq_true_iff.mp (show ((match e.key with | .str x _ => decide (x = kv.1) | _ => false) && ((match e.val with | .int i _ => decide (i = kv.2) | _ => false) && relTabB es tab)) = true from h)
    obtain ⟨h2, h3⟩ := Bool.and_eq_true_iff.mp h2
    refine .cons ⟨?_, ?_⟩ (relTab_ok h3)
    · cases hk : e.key with
      | str x t =>
        rw [hk] at h1
        exact ⟨t, by rw [of_decide_eq_true h1]⟩
      | _ => rw [hk] at h1; cases h1
    · cases hk : e.val with
      | int x t =>
        rw [hk] at h2
        exact ⟨t, by rw [of_decide_eq_true h2]⟩
      | _ => rw [hk] at h2; cases h2
/-- the dict at a is this table -/
def tabB2 (K : PySem.W.Frag) (a : Addr) (tab : List (Str × Int)) : Bool := match K.lookup a with
  | some ⟨_, _, .dict es _, _⟩ => relTabB es.toList tab
  | _ => false
theorem tab_of {K : PySem.W.Frag} {w : World} {mg : Str → Option Value} {fa : List He.Fa} {fn : List He.DefD} {ts : List He.Tab} {y : Str} {ks : List Str} {tab : List (Str × Int)} (c : He.SaysT fa fn ts w K) (i : Nat) (hi : ts[i]? = some (fun K => He.ga K y, ks)) (hg : mg y = some (.ref (He.ga K y))) (hv : tabB2 K (He.ga K y) tab = true) : TabG w K mg y tab := by
  obtain ⟨es, n, kd⟩ := c.tab i hi
  refine ⟨_, es, n, hg, kd, relTab_ok ?_⟩
  unfold tabB2 at hv
  rw [show K.lookup (He.ga K y) = _ from kd.at_] at hv
  exact hv
theorem law_start {P : Program} {w : World} {K : PySem.W.Frag} {H : Hp} {a : Addr} {ns : List Int} {sp : SpD} (hsp : ∀ Q : QD, (∀ A, Q (.bl true) A) → sp [.scr ns] (fun _ => none) Q) (hO : Only H) (hS : SqL K H a (ns.map V.int)) : lSp0 P w K sp [.ref a] H (fun v _ => v = .bl true) fun _ _ _ => False := by
  have hC : SqC K H a (ns.map V.int) := by
    rcases hS with (h | ⟨o, h⟩) | h
    · rcases hO a with e | ⟨o, xs, e⟩
      · rw [h] at e; cases e
      · rw [h] at e; cases e
    · exact .inl ⟨o, h⟩
    · exact .inr h
  refine ⟨[.scr ns], fun _ => none, fun d _ => d = .bl true, .cons (.scr hC) .nil, fun a o h => (by cases h), hsp _ fun _ => rfl, fun d A' v H' q _ _ tv => ?_⟩
  subst q
  cases tv
  rfl
end TL

/-! WA: the small checks, the well, the drawn body: what these defs do. -/
namespace TL
open PySem PySem.Spec L2
/-! ### small checks -/
def isIntD : D → Bool
  | .int _ => true
  | _ => false
mutual
/-- no thing that changes in it (lists that stay are not looked into) -/
def rf : D → Bool
  | .ref _ => false
  | .tup ds => rfs ds
  | _ => true
def rfs : List D → Bool
  | [] => true
  | d :: ds => rf d && rfs ds
end
theorem rfs_all : ∀ {ds : List D}, rfs ds = true → ∀ d ∈ ds, rf d = true
  | d :: ds, h, x, hx => by
    simp only [rfs, Bool.and_eq_true] at h
    rcases List.mem_cons.mp hx with e | hx
    · rw [e]; exact h.1
    · exact rfs_all h.2 x hx
theorem all_rfs : ∀ {ds : List D}, (∀ d ∈ ds, rf d = true) → rfs ds = true
  | [], _ => rfl
  | d :: ds, h => by
    simp only [rfs, Bool.and_eq_true]
    exact ⟨h d (by simp), all_rfs fun x hx => h x (by simp [hx])⟩
theorem ty_rf {A : SD} {d : D} (h : rf d = true) : tyD A d ≠ "" := by
  cases d <;> simp_all [rf, tyD]
def isBlD : D → Bool
  | .bl _ => true
  | _ => false
theorem kb_of {A : SD} {d : D} (h : rf d = true) (T : String) {f : D → Bool} (h1 : kitB "NoneType" T = some (f .non)) (h2 : ∀ b, kitB "bool" T = some (f (.bl b))) (h3 : ∀ i, kitB "int" T = some (f (.int i))) (h4 : ∀ x, kitB "str" T = some (f (.str x))) (h5 : ∀ x, kitB "tuple" T = some (f (.tup x)))
    (h6 : ∀ x, kitB "list" T = some (f (.lst x))) (h7 : ∀ x, kitB "list" T = some (f (.scr x))) : kitB (tyD A d) T = some (f d) := by
  cases d with
  | non => exact h1
  | bl b => exact h2 b
  | int b => exact h3 b
  | str b => exact h4 b
  | tup b => exact h5 b
  | lst b => exact h6 b
  | scr b => exact h7 b
  | ref b => cases h
def isTupD : D → Bool
  | .tup _ => true
  | _ => false
def isStrD : D → Bool
  | .str _ => true
  | _ => false
def isIB : D → Bool
  | .int _ => true
  | .bl _ => true
  | _ => false
theorem k_tf : kitB "NoneType" "int" = some false ∧ kitB "bool" "int" = some true ∧ kitB "int" "int" = some true ∧ kitB "str" "int" = some false ∧ kitB "tuple" "int" = some false ∧ kitB "list" "int" = some false := by decide +kernel
theorem k_tb : kitB "NoneType" "bool" = some false ∧ kitB "bool" "bool" = some true ∧ kitB "int" "bool" = some false ∧ kitB "str" "bool" = some false ∧ kitB "tuple" "bool" = some false ∧ kitB "list" "bool" = some false := by decide +kernel
theorem k_tt : kitB "NoneType" "tuple" = some false ∧ kitB "bool" "tuple" = some false ∧ kitB "int" "tuple" = some false ∧ kitB "str" "tuple" = some false ∧ kitB "tuple" "tuple" = some true ∧ kitB "list" "tuple" = some false := by decide +kernel
theorem k_ts : kitB "NoneType" "str" = some false ∧ kitB "bool" "str" = some false ∧ kitB "int" "str" = some false ∧ kitB "str" "str" = some true ∧ kitB "tuple" "str" = some false ∧ kitB "list" "str" = some false := by decide +kernel
theorem kb_int {A : SD} {d : D} (h : rf d = true) : kitB (tyD A d) "int" = some (isIB d) := kb_of h "int" k_tf.1 (fun _ => k_tf.2.1) (fun _ => k_tf.2.2.1) (fun _ => k_tf.2.2.2.1) (fun _ => k_tf.2.2.2.2.1) (fun _ => k_tf.2.2.2.2.2) fun _ => k_tf.2.2.2.2.2
theorem kb_bool {A : SD} {d : D} (h : rf d = true) : kitB (tyD A d) "bool" = some (isBlD d) := kb_of h "bool" k_tb.1 (fun _ => k_tb.2.1) (fun _ => k_tb.2.2.1) (fun _ => k_tb.2.2.2.1) (fun _ => k_tb.2.2.2.2.1) (fun _ => k_tb.2.2.2.2.2) fun _ => k_tb.2.2.2.2.2
theorem kb_tup {A : SD} {d : D} (h : rf d = true) : kitB (tyD A d) "tuple" = some (isTupD d) := kb_of h "tuple" k_tt.1 (fun _ => k_tt.2.1) (fun _ => k_tt.2.2.1) (fun _ => k_tt.2.2.2.1) (fun _ => k_tt.2.2.2.2.1) (fun _ => k_tt.2.2.2.2.2) fun _ => k_tt.2.2.2.2.2
theorem kb_str {A : SD} {d : D} (h : rf d = true) : kitB (tyD A d) "str" = some (isStrD d) := kb_of h "str" k_ts.1 (fun _ => k_ts.2.1) (fun _ => k_ts.2.2.1) (fun _ => k_ts.2.2.2.1) (fun _ => k_ts.2.2.2.2.1) (fun _ => k_ts.2.2.2.2.2) fun _ => k_ts.2.2.2.2.2
@[simp] theorem vw_int {A : SD} {i : Int} : vw A (.int i) = .int i := rfl
@[simp] theorem vw_str {A : SD} {i : Str} : vw A (.str i) = .str i := rfl
@[simp] theorem vw_tup {A : SD} {i : List D} : vw A (.tup i) = .tup i := rfl
@[simp] theorem ok_int {n : Nat} {i : Int} : ok n (.int i) = true := by cases n <;> rfl
@[simp] theorem ok_str {n : Nat} {i : Str} : ok n (.str i) = true := by cases n <;> rfl
@[simp] theorem ok_non {n : Nat} : ok n .non = true := by cases n <;> rfl
@[simp] theorem ok_tup {n : Nat} {ds : List D} : ok (n + 1) (.tup ds) = ds.all (ok n) := rfl
theorem r_lenT {A : SD} {Q : QD} {ds : List D} (q : Q (.int (ds.length : Nat)) A) : rLen [.tup ds] A Q := ⟨_, rfl, .inl ⟨ds, rfl, q⟩⟩
/-- == of whole numbers -/
theorem r_eqI {A : SD} {Q : QD} {i j : Int} (q : Q (.bl (decide (i = j))) A) : rEq' (.int i) (.int j) A Q := ⟨rfl, rfl, by
  have e : decide (vw A (.int i) = vw A (.int j)) = decide (i = j) := by simp
  rw [e]; exact q⟩
theorem r_neI {A : SD} {Q : QD} {i j : Int} (q : Q (.bl (!decide (i = j))) A) : rNe' (.int i) (.int j) A Q := ⟨rfl, rfl, by
  have e : decide (vw A (.int i) = vw A (.int j)) = decide (i = j) := by simp
  rw [e]; exact q⟩
theorem r_eqS {A : SD} {Q : QD} {i j : Str} (q : Q (.bl (decide (i = j))) A) : rEq' (.str i) (.str j) A Q := ⟨rfl, rfl, by
  have e : decide (vw A (.str i) = vw A (.str j)) = decide (i = j) := by simp
  rw [e]; exact q⟩
theorem r_neS {A : SD} {Q : QD} {i j : Str} (q : Q (.bl (!decide (i = j))) A) : rNe' (.str i) (.str j) A Q := ⟨rfl, rfl, by
  have e : decide (vw A (.str i) = vw A (.str j)) = decide (i = j) := by simp
  rw [e]; exact q⟩
def sp_is_int : SpD := fun ds A Q => ∃ d, ds = [d] ∧ rf d = true ∧ Q (.bl (isIntD d)) A
-- slots: 0 thing
noncomputable def W_is_int : SW :=
  (sRet (eAnd (eIsi (eVar 0) "int") (eNot (eIsi (eVar 0) "bool"))))
theorem wok_is_int (ds : List D) (A : SD) (Q : QD) (h : sp_is_int ds A Q) : ds.length = 1 ∧ W_is_int { nx := fun _ A' => Q .non A', rt := Q } (startD 1 ds) A := by
  obtain ⟨d, rfl, hr, q⟩ := h
  refine ⟨rfl, ?_⟩
  refine ⟨d, rfl, ty_rf hr, _, kb_int hr, _, rfl, ?_⟩
  cases d with
  | int i => exact ⟨_, rfl, ty_rf hr, _, kb_bool hr, _, rfl, q⟩
  | bl i => exact ⟨_, rfl, ty_rf hr, _, kb_bool hr, _, rfl, q⟩
  | _ => exact q
/-- a whole number from lo to hi -/
def isWholeD (d : D) (lo hi : Int) : Bool := match d with
  | .int i => decide (lo ≤ i) && decide (i ≤ hi)
  | _ => false
def sp_is_whole : SpD := fun ds A Q => ∃ d lo hi, ds = [d, .int lo, .int hi] ∧ rf d = true ∧ Q (.bl (isWholeD d lo hi)) A
-- slots: 0 thing 1 low 2 high
noncomputable def W_is_whole : SW :=
  (sRet (eAnd (eCall sp_is_int (aCons (eVar 0) aNil)) (eChain rLe' rLe' (eVar 1) (eVar 0) (eVar 2))))
theorem wok_is_whole (ds : List D) (A : SD) (Q : QD) (h : sp_is_whole ds A Q) : ds.length = 3 ∧ W_is_whole { nx := fun _ A' => Q .non A', rt := Q } (startD 3 ds) A := by
  obtain ⟨d, lo, hi, rfl, hr, q⟩ := h
  refine ⟨rfl, ?_⟩
  refine ⟨d, rfl, d, rfl, hr, _, rfl, ?_⟩
  cases d with
  | int i =>
    refine ⟨_, rfl, _, rfl, _, rfl, ?_⟩
    by_cases h1 : lo ≤ i
    · simp only [h1, decide_true, if_true]
      refine ⟨_, rfl, ?_⟩
      simpa [isWholeD, h1] using q
    · simp only [h1, decide_false]
      simpa [isWholeD, h1] using q
  | _ => exact q
def isTupN (d : D) (n : Int) : Bool := match d with
  | .tup ds => decide ((ds.length : Int) = n)
  | _ => false
def sp_is_tuple : SpD := fun ds A Q => ∃ d n, ds = [d, .int n] ∧ rf d = true ∧ Q (.bl (isTupN d n)) A
-- slots: 0 thing 1 many
noncomputable def W_is_tuple : SW :=
  (sRet (eAnd (eIsi (eVar 0) "tuple") (eOp rEq' (eCall rLen (aCons (eVar 0) aNil)) (eVar 1))))
theorem wok_is_tuple (ds : List D) (A : SD) (Q : QD) (h : sp_is_tuple ds A Q) : ds.length = 2 ∧ W_is_tuple { nx := fun _ A' => Q .non A', rt := Q } (startD 2 ds) A := by
  obtain ⟨d, n, rfl, hr, q⟩ := h
  refine ⟨rfl, ?_⟩
  refine ⟨d, rfl, ty_rf hr, _, kb_tup hr, _, rfl, ?_⟩
  cases d with
  | tup ds => exact ⟨_, rfl, _, rfl, .inl ⟨ds, rfl, _, rfl, r_eqI q⟩⟩
  | _ => exact q
/-! ### the well -/
/-- what stands at the well -/
def WellAt (A : SD) (q : Addr) : Prop := ∃ a b c : Int, A q = some (.lst [.int a, .int b, .int c]) ∧ 0 ≤ a ∧ -(2 ^ 64) < b ∧ b < 2 ^ 64 ∧ 0 < c ∧ c < 2 ^ 63
/-- but for the thing at q all is the same -/
def Oth (q : Addr) (A A' : SD) : Prop := ∀ a, a ≠ q → A' a = A a
theorem Oth.refl (q : Addr) (A : SD) : Oth q A A := fun _ _ => rfl
theorem Oth.trans {q : Addr} {A B C : SD} (h : Oth q A B) (h' : Oth q B C) : Oth q A C := fun a ha => (h' a ha).trans (h a ha)
theorem Oth.up {q : Addr} {A : SD} {o : OD} : Oth q A (upA A q o) := fun a ha => upA_ne ha
def sp__law_take : SpD := fun ds A Q => ∃ q m, ds = [.ref q, .int m] ∧ WellAt A q ∧ 0 < m ∧ m < 1073741824 ∧ ∀ r A', 0 ≤ r → r < m → WellAt A' q → Oth q A A' → Q (.int r) A'
-- slots: 0 _law_well_here 1 _law_many 2 _law_got
/-- return _law_got -/
noncomputable def W__law_take_t1 : SW :=
  (sRet (eVar 2))
/-- _law_well_here[0] = _l -/
noncomputable def W__law_take_t2 : SW :=
  (sSeq (sAsg (eOp rFdiv (eOp rIdx (eVar 0) (eC (.int 0))) (eVar 1)) (gSub' (eVar 0) (eC (.int 0)) wLst))
  W__law_take_t1)
/-- return _law_well_here[ -/
noncomputable def W__law_take_t3 : SW :=
  (sRet (eOp rMod (eOp rFdiv (eOp rMod (eOp rMul' (eOp rIdx (eVar 0) (eC (.int 1))) (eOp rIdx (eVar 0) (eC (.int 1)))) (eC (.int 2147483423))) (eC (.int 7))) (eVar 1)))
/-- _law_well_here[1] = _l -/
noncomputable def W__law_take_t4 : SW :=
  (sSeq (sAsg (eOp rAdd' (eOp rMod (eOp rMul' (eOp rIdx (eVar 0) (eC (.int 1))) (eC (.int 48271))) (eOp rIdx (eVar 0) (eC (.int 2)))) (eC (.int 1))) (gSub' (eVar 0) (eC (.int 1)) wLst))
  W__law_take_t3)
noncomputable def W__law_take : SW :=
  (sSeq (sIf (tVal (eOp rGt' (eOp rIdx (eVar 0) (eC (.int 0))) (eC (.int 0)))) (sSeq (sSet 2 (eOp rMod (eOp rIdx (eVar 0) (eC (.int 0))) (eVar 1)))
  W__law_take_t2) sNil)
  W__law_take_t4)
theorem wok__law_take (ds : List D) (A : SD) (Q : QD) (h : sp__law_take ds A Q) : ds.length = 2 ∧ W__law_take { nx := fun _ A' => Q .non A', rt := Q } (startD 3 ds) A := by
  obtain ⟨q, m, rfl, ⟨a, b, c, hq, ha, hb1, hb2, hc1, hc2⟩, hm, hm2, k⟩ := h
  refine ⟨rfl, ?_⟩
  have qv0 : ∀ A', A' q = A q → qv A' (.ref q) = some [.int a, .int b, .int c] := fun A' e => by simp only [qv, lv, e, hq]
  refine ⟨_, rfl, _, rfl, .inl ⟨_, _, qv0 A rfl, rfl, _, rfl, ?_⟩⟩
  by_cases h0 : 0 < a
  · simp only [h0, decide_true, if_true]
    refine ⟨_, rfl, 0, rfl, .inl ⟨_, _, qv0 A rfl, rfl, _, rfl, hm, ?_⟩⟩
    refine ⟨_, rfl, 0, rfl, .inl ⟨_, _, qv0 A rfl, rfl, _, rfl, ⟨hm, hm2⟩, ?_⟩⟩
    refine ⟨_, rfl, q, 0, _, 0, rfl, rfl, hq, rfl, _, rfl, ?_⟩
    exact k _ _ (Int.emod_nonneg _ (by omega)) (Int.emod_lt_of_pos _ hm) ⟨a / m, b, c, upA_same, Int.ediv_nonneg (by omega) (by omega), hb1, hb2, hc1, hc2⟩ Oth.up
  · simp only [h0, decide_false]
    have e0 : a = 0 := by omega
    subst e0
    refine ⟨_, rfl, 1, rfl, .inl ⟨_, _, qv0 A rfl, rfl, .inr ⟨by decide, by decide⟩, ?_⟩⟩
    refine ⟨_, rfl, 2, rfl, .inl ⟨_, _, qv0 A rfl, rfl, hc1, ?_⟩⟩
    refine ⟨_, rfl, q, 1, _, 1, rfl, rfl, hq, rfl, ?_⟩
    have p1 := Int.emod_nonneg (b * 48271) (show c ≠ 0 by omega)
    have p2 := Int.emod_lt_of_pos (b * 48271) hc1
    have qv1 : ∀ xs, qv (upA A q (.lst xs)) (.ref q) = some xs := fun xs => by simp only [qv, lv, upA_same]
    refine ⟨_, rfl, 1, rfl, .inl ⟨_, _, qv1 _, rfl, ?_⟩⟩
    refine ⟨_, rfl, 1, rfl, .inl ⟨_, _, qv1 _, rfl, ?_⟩⟩
    refine ⟨.inl ⟨show -(2 ^ 64) < b * 48271 % c + 1 by omega, show b * 48271 % c + 1 < 2 ^ 64 by omega⟩, (show (0 : Int) < 2147483423 by decide), ⟨by decide, by decide⟩, _, rfl, hm, ?_⟩
    exact k _ _ (Int.emod_nonneg _ (by omega)) (Int.emod_lt_of_pos _ hm) ⟨0, b * 48271 % c + 1, c, upA_same, by omega, by omega, by omega, hc1, hc2⟩ Oth.up
end TL

/-! WB: cells, bodies, the drawn body. -/
namespace TL
open PySem PySem.Spec L2
/-- a comprehension whose parts are functions -/
theorem lc_pure {g : GW} {tt : TW} {te : EW} {env0 : ED} {A : SD} {R : Addr → List D → SD → Prop} {G : SD → Prop} {ds : List D} (f : D → Option D) (hz : ds.length ≤ sizeLine) (hG : ∀ p acc, A p = none → G (upA A p (.lst acc)))
    (hs : ∀ p, A p = none → ∀ d ∈ ds, ∀ acc (Qy : D → SD → Prop) (Qn : SD → Prop), (match f d with | some y => Qy y (upA A p (.lst acc)) | none => Qn (upA A p (.lst acc))) → g d env0 (upA A p (.lst acc)) fun env1 A2 => tt env1 A2 fun b A3 => if b = true then te env1 A3 Qy else Qn A3)
    (hq : ∀ p, A p = none → R p (ds.filterMap f) (upA A p (.lst (ds.filterMap f)))) (p : Addr) (hp : A p = none) : lcGo p G g tt te env0 ds (upA A p (.lst [])) fun acc A' => R p acc A' :=
  lcGo_of (St := fun _ => True) f hz hp (fun acc => hG p acc hp) (fun d hd acc Qy Qn h => hs p hp d hd acc Qy Qn h) (hq p hp)
theorem iteB {b c : Bool} {p q : Prop} (h : b = c) (x : if c = true then p else q) : if b = true then p else q := by
  subst h
  exact x
theorem up_ne_none {A : SD} {p a : Addr} {o : OD} (hp : A p = none) {u : OD} (h : A a = some u) : upA A p o a = some u := by
  rw [upA_ne (fun e => by rw [e, hp] at h; cases h)]
  exact h
/-! ### rising -/
noncomputable def risingD (xs : List D) : Bool := (List.range (xs.length - 1)).all fun k => match xs[k]?, xs[k + 1]? with
  | some a, some b => ltD a b
  | _, _ => true
theorem atI_nat {α : Type} {xs : List α} {k : Nat} (h : k < xs.length) : atI xs (k : Int) = some xs[k] := by
  unfold atI ixN
  rw [if_pos (by omega), if_pos (by omega)]
  simp [List.getElem?_eq_getElem h]
theorem mem_ints {n : Nat} {d : D} (h : d ∈ intsD 0 1 n) : ∃ k : Nat, k < n ∧ d = .int (k : Nat) := by
  unfold intsD at h
  obtain ⟨k, hk, rfl⟩ := List.mem_map.mp h
  exact ⟨k, List.mem_range.mp hk, by simp⟩
theorem filterMap_ints {n : Nat} (f : Nat → D) (F : D → Option D) (h : ∀ k : Nat, k < n → F (.int (k : Nat)) = some (f k)) : (intsD 0 1 n).filterMap F = (List.range n).map f := by
  unfold intsD
  rw [List.filterMap_map, ← List.filterMap_eq_map]
  have gen : ∀ l : List Nat, (∀ k ∈ l, k < n) → l.filterMap (F ∘ fun i => D.int (0 + (i : Nat) * 1)) = l.filterMap (some ∘ f) := by
    intro l
    induction l with
    | nil => intro _; rfl
    | cons k l ih =>
      intro hl
      have e : (F ∘ fun i => D.int (0 + (i : Nat) * 1)) k = some (f k) := by
        have := h k (hl k (by simp))
        simpa using this
      rw [List.filterMap_cons_some e, List.filterMap_cons_some (show (some ∘ f) k = some (f k) from rfl), ih fun x hx => hl x (by simp [hx])]
  exact gen _ fun k hk => List.mem_range.mp hk
def sp_rising : SpD := fun ds A Q => ∃ xs, ds = [.tup xs] ∧ xs.length ≤ sizeLine ∧ (∀ x ∈ xs, okE x = true) ∧ (∀ x ∈ xs, ∀ y ∈ xs, alk x y = true) ∧ Q (.bl (risingD xs)) A
-- slots: 0 some 1 k
noncomputable def W_rising : SW :=
  (sRet (eCall rAll' (aCons (eLc (iRng1 (aCons (eOp rSub' (eCall rLen (aCons (eVar 0) aNil)) (eC (.int 1))) aNil)) (gVar 1) tYesE (eOp rLtD (eOp rIdx (eVar 0) (eVar 1)) (eOp rIdx (eVar 0) (eOp rAdd' (eVar 1) (eC (.int 1))))) [1]) aNil)))
theorem wok_rising (ds : List D) (A : SD) (Q : QD) (h : sp_rising ds A Q) : ds.length = 1 ∧ W_rising { nx := fun _ A' => Q .non A', rt := Q } (startD 2 ds) A := by
  obtain ⟨xs, rfl, hz, ho, ha, q⟩ := h
  refine ⟨rfl, ?_⟩
  have hs : (sizeLine : Nat) = 16777216 := sizeLine_eq
  refine ⟨_, rfl, _, rfl, .inl ⟨xs, rfl, ?_⟩⟩
  refine ⟨_, rfl, by show -(2 ^ 62) ≤ (xs.length : Int) - 1; omega, by show ((xs.length : Int) - 1).toNat ≤ sizeLine; omega, fun hz2 => ?_⟩
  have en : ((xs.length : Int) - 1).toNat = xs.length - 1 := by omega
  refine lc_pure (f := fun d => match d with | .int k => some (.bl (match xs[k.toNat]?, xs[k.toNat + 1]? with | some a, some b => ltD a b | _, _ => true)) | _ => none) hz2 ?_ ?_ ?_
  · exact fun _ _ _ => trivial
  · intro p hp d hd acc Qy Qn h
    obtain ⟨k, hk, rfl⟩ := mem_ints hd
    have hk0 : k < ((xs.length : Int) - 1).toNat := hk
    have hk1 : k < xs.length := by omega
    have hk2 : k + 1 < xs.length := by omega
    have ek : ((k : Nat) : Int) + 1 = ((k + 1 : Nat) : Int) := by omega
    simp only [w_gvar, w_yes, ↓reduceIte]
    refine ⟨_, rfl, _, rfl, (k : Int), rfl, .inl ⟨xs, _, rfl, atI_nat hk1, _, rfl, _, rfl, _, rfl, .inl ⟨xs, xs[k + 1], rfl, (by rw [ek]; exact atI_nat hk2), ?_⟩⟩⟩
    refine ⟨ho _ (List.getElem_mem _), ho _ (List.getElem_mem _), ha _ (List.getElem_mem _) _ (List.getElem_mem _), ?_⟩
    simpa [List.getElem?_eq_getElem hk1, List.getElem?_eq_getElem hk2] using h
  · intro p hp
    rw [drop_upA hp]
    refine ⟨_, (List.range (xs.length - 1)).map (fun k => match xs[k]?, xs[k + 1]? with | some a, some b => ltD a b | _, _ => true), rfl, ?_, ?_⟩
    · show some _ = some _
      rw [filterMap_ints (fun k => .bl (match xs[k]?, xs[k + 1]? with | some a, some b => ltD a b | _, _ => true)) _ (fun k hk => by simp), en, List.map_map]
      rfl
    · rw [List.all_map]
      exact q
/-! ### cells -/
def isCellD : D → Bool
  | .tup [z, y, x] => isWholeD z 0 7 && (isWholeD y 0 9 && isWholeD x 0 9)
  | _ => false
def sp_is_cell : SpD := fun ds A Q => ∃ d, ds = [d] ∧ rf d = true ∧ Q (.bl (isCellD d)) A
-- slots: 0 thing
/-- return is_whole(thing[ -/
noncomputable def W_is_cell_t1 : SW :=
  (sRet (eAnd (eCall sp_is_whole (aCons (eOp rIdx (eVar 0) (eC (.int 1))) (aCons (eC (.int 0)) (aCons (eC c_EDGE) aNil)))) (eCall sp_is_whole (aCons (eOp rIdx (eVar 0) (eC (.int 2))) (aCons (eC (.int 0)) (aCons (eC c_EDGE) aNil))))))
noncomputable def W_is_cell : SW :=
  (sSeq (sIf (tOr' (tNot' (tVal (eCall sp_is_tuple (aCons (eVar 0) (aCons (eC (.int 3)) aNil))))) (tNot' (tVal (eCall sp_is_whole (aCons (eOp rIdx (eVar 0) (eC (.int 0))) (aCons (eC (.int 0)) (aCons (eC c_TOP) aNil))))))) (sRet (eC (.bl false))) sNil)
  W_is_cell_t1)
theorem wok_is_cell (ds : List D) (A : SD) (Q : QD) (h : sp_is_cell ds A Q) : ds.length = 1 ∧ W_is_cell { nx := fun _ A' => Q .non A', rt := Q } (startD 1 ds) A := by
  obtain ⟨d, rfl, hr, q⟩ := h
  refine ⟨rfl, ?_⟩
  refine ⟨d, rfl, d, 3, rfl, hr, _, rfl, ?_⟩
  by_cases h3 : isTupN d 3 = true
  · rw [h3]
    refine iteF ?_
    cases d with
    | tup xs =>
      simp only [isTupN, decide_eq_true_eq] at h3
      match xs, h3, hr, q with
      | [z, y, x], _, hr, q =>
        simp only [rf, rfs, Bool.and_eq_true] at hr
        refine ⟨_, rfl, 0, rfl, .inl ⟨_, _, rfl, rfl, z, 0, 7, rfl, hr.1, _, rfl, ?_⟩⟩
        cases e : isWholeD z 0 7 with
        | false =>
          refine iteT ?_
          simpa [isCellD, e] using q
        | true =>
          refine iteF ?_
          refine ⟨_, rfl, 1, rfl, .inl ⟨_, _, rfl, rfl, y, 0, 9, rfl, hr.2.1, _, rfl, ?_⟩⟩
          cases e2 : isWholeD y 0 9 with
          | false =>
            refine iteF ?_
            simpa [isCellD, e, e2] using q
          | true =>
            refine iteT ⟨_, rfl, 2, rfl, .inl ⟨_, _, rfl, rfl, x, 0, 9, rfl, hr.2.2.1, ?_⟩⟩
            simpa [isCellD, e, e2] using q
    | _ => simp [isTupN] at h3
  · have h3' : isTupN d 3 = false := by simpa using h3
    rw [h3']
    refine iteT ?_
    have e : isCellD d = false := by
      cases d with
      | tup xs =>
        simp only [isTupN, decide_eq_false_iff_not] at h3'
        match xs, h3' with
        | [], _ => rfl
        | [_], _ => rfl
        | [_, _], _ => rfl
        | [_, _, _], h => exact absurd rfl h
        | _ :: _ :: _ :: _ :: _, _ => rfl
      | _ => rfl
    rw [e] at q
    exact q
theorem cell_of {d : D} (h : isCellD d = true) : ∃ z y x : Int, d = .tup [.int z, .int y, .int x] ∧ 0 ≤ z ∧ z ≤ 7 ∧ 0 ≤ y ∧ y ≤ 9 ∧ 0 ≤ x ∧ x ≤ 9 := by
  unfold isCellD at h
  split at h
  · rename_i z y x
    simp only [Bool.and_eq_true] at h
    obtain ⟨h1, h2, h3⟩ := h
    have whole : ∀ {d : D} {lo hi : Int}, isWholeD d lo hi = true → ∃ i, d = .int i ∧ lo ≤ i ∧ i ≤ hi := fun {d lo hi} h => by
      unfold isWholeD at h
      split at h
      · simp at h; exact ⟨_, rfl, h⟩
      · cases h
    obtain ⟨a, rfl, a1, a2⟩ := whole h1
    obtain ⟨b, rfl, b1, b2⟩ := whole h2
    obtain ⟨c, rfl, c1, c2⟩ := whole h3
    exact ⟨a, b, c, rfl, a1, a2, b1, b2, c1, c2⟩
  · cases h
theorem cells_ok {xs : List D} (h : ∀ x ∈ xs, isCellD x = true) : (∀ x ∈ xs, okE x = true) ∧ ∀ x ∈ xs, ∀ y ∈ xs, alk x y = true := by
  refine ⟨fun x hx => ?_, fun x hx y hy => ?_⟩
  · obtain ⟨a, b, c, rfl, _⟩ := cell_of (h x hx)
    rfl
  · obtain ⟨a, b, c, rfl, _⟩ := cell_of (h x hx)
    obtain ⟨a', b', c', rfl, _⟩ := cell_of (h y hy)
    rfl
noncomputable def areCellsD : D → Bool
  | .tup xs => xs.all isCellD && risingD xs
  | _ => false
def sp_are_cells : SpD := fun ds A Q => ∃ d, ds = [d] ∧ rf d = true ∧ (∀ xs, d = .tup xs → xs.length ≤ sizeLine) ∧ Q (.bl (areCellsD d)) A
-- slots: 0 thing 1 one
noncomputable def W_are_cells : SW :=
  (sRet (eAnd (eIsi (eVar 0) "tuple") (eAnd (eCall rAll' (aCons (eLc (iSeq (eVar 0)) (gVar 1) tYesE (eCall sp_is_cell (aCons (eVar 1) aNil)) [1]) aNil)) (eCall sp_rising (aCons (eVar 0) aNil)))))
theorem wok_are_cells (ds : List D) (A : SD) (Q : QD) (h : sp_are_cells ds A Q) : ds.length = 1 ∧ W_are_cells { nx := fun _ A' => Q .non A', rt := Q } (startD 2 ds) A := by
  obtain ⟨d, rfl, hr, hz, q⟩ := h
  refine ⟨rfl, ?_⟩
  refine ⟨d, rfl, ty_rf hr, _, kb_tup hr, _, rfl, ?_⟩
  cases d with
  | tup xs =>
    have hz := hz xs rfl
    have hr' := rfs_all hr
    refine iteT ⟨_, rfl, xs, rfl, fun hz2 => ?_⟩
    refine lc_pure (f := fun d => some (.bl (isCellD d))) hz2 ?_ ?_ ?_
    · exact fun _ _ _ => rfl
    · intro p hp d hd acc Qy Qn h
      simp only [w_gvar, w_yes, ↓reduceIte]
      exact ⟨_, rfl, d, rfl, hr' d hd, h⟩
    · intro p hp
      rw [drop_upA hp]
      refine ⟨_, xs.map isCellD, rfl, ?_, _, rfl, ?_⟩
      · show some _ = some _
        rw [List.filterMap_eq_map', List.map_map]
        rfl
      · rw [List.all_map]
        cases e : xs.all isCellD with
        | false =>
          have e' : xs.all ((fun b => b) ∘ isCellD) = false := e
          rw [e']
          refine iteF ?_
          simpa [areCellsD, e] using q
        | true =>
          have e' : xs.all ((fun b => b) ∘ isCellD) = true := e
          rw [e']
          obtain ⟨c1, c2⟩ := cells_ok (List.all_eq_true.mp e)
          refine iteT ⟨_, rfl, xs, rfl, hz, c1, c2, ?_⟩
          simpa [areCellsD, e] using q
  | _ => exact q
noncomputable def isBodyD (d : D) : Bool := areCellsD d && (match d with | .tup xs => decide (1 ≤ xs.length) && decide (xs.length ≤ 200) | _ => false)
def sp_is_body : SpD := fun ds A Q => ∃ d, ds = [d] ∧ rf d = true ∧ (∀ xs, d = .tup xs → xs.length ≤ sizeLine) ∧ Q (.bl (isBodyD d)) A
-- slots: 0 thing
noncomputable def W_is_body : SW :=
  (sRet (eAnd (eCall sp_are_cells (aCons (eVar 0) aNil)) (eChain rLe' rLe' (eC (.int 1)) (eCall rLen (aCons (eVar 0) aNil)) (eC c_MOST_CELLS))))
theorem wok_is_body (ds : List D) (A : SD) (Q : QD) (h : sp_is_body ds A Q) : ds.length = 1 ∧ W_is_body { nx := fun _ A' => Q .non A', rt := Q } (startD 1 ds) A := by
  obtain ⟨d, rfl, hr, hz, q⟩ := h
  refine ⟨rfl, ?_⟩
  refine ⟨d, rfl, d, rfl, hr, hz, _, rfl, ?_⟩
  cases e : areCellsD d with
  | false =>
    refine iteF ?_
    simpa [isBodyD, e] using q
  | true =>
    cases d with
    | tup xs =>
      refine iteT ⟨_, rfl, _, rfl, .inl ⟨xs, rfl, _, rfl, ?_⟩⟩
      by_cases h1 : 1 ≤ xs.length
      · have h1' : (1 : Int) ≤ (xs.length : Nat) := by omega
        refine iteB (c := true) (decide_eq_true h1') (iteT ?_)
        have e2 : decide (((xs.length : Nat) : Int) ≤ 200) = decide (xs.length ≤ 200) := by
          by_cases h2 : xs.length ≤ 200
          · rw [decide_eq_true h2, decide_eq_true (by omega)]
          · rw [decide_eq_false h2, decide_eq_false (by omega)]
        show Q (.bl (decide (((xs.length : Nat) : Int) ≤ 200))) A
        rw [e2]
        simpa [isBodyD, e, h1] using q
      · have h1' : ¬ (1 : Int) ≤ (xs.length : Nat) := by omega
        refine iteB (c := false) (decide_eq_false h1') (iteF ?_)
        simpa [isBodyD, e, h1] using q
    | _ => simp [areCellsD] at e
end TL

/-! WC: the well is made; cells in their order. -/
namespace TL
open PySem PySem.Spec L2
def sp__law_well : SpD := fun ds A Q => ∃ (ns : List Int) (k : Nat), ds = [.scr ns, .int k] ∧ k < 1000 ∧ ∀ q A', A q = none → WellAt A' q → Oth q A A' → Q (.ref q) A'
-- slots: 0 _law_script 1 _law_k 2 _law_cell 3 _law_primes 4 _law_seed
/-- return [0, _law_seed,  -/
noncomputable def W__law_well_t1 : SW :=
  (sRet (eNew (aCons (eC (.int 0)) (aCons (eVar 4) (aCons (eOp rIdx (eVar 3) (eOp rMod (eVar 1) (eC (.int 8)))) aNil)))))
/-- if _law_cell >= 10 **  -/
noncomputable def W__law_well_t2 : SW :=
  (sSeq (sIf (tVal (eOp rGe' (eVar 2) (eOp rPow (eC (.int 10)) (eC (.int 18))))) (sRet (eNew (aCons (eVar 2) (aCons (eVar 4) (aCons (eOp rIdx (eVar 3) (eOp rMod (eVar 1) (eC (.int 8)))) aNil))))) sNil)
  W__law_well_t1)
/-- _law_seed = _law_seed  -/
noncomputable def W__law_well_t3 : SW :=
  (sSeq (sSet 4 (eOp rAdd' (eOp rAdd' (eOp rMod (eOp rMul' (eVar 4) (eVar 4)) (eC (.int 2147483477))) (eVar 1)) (eC (.int 1))))
  W__law_well_t2)
/-- _law_seed = (_law_cell -/
noncomputable def W__law_well_t4 : SW :=
  (sSeq (sSet 4 (eOp rMod (eOp rMul' (eOp rAdd' (eOp rMod (eVar 2) (eC (.int 2147483489))) (eC (.int 1))) (eOp rAdd' (eC (.int 48271)) (eOp rMul' (eC (.int 2)) (eVar 1)))) (eC (.int 2147483489))))
  W__law_well_t3)
/-- _law_primes = [2147483 -/
noncomputable def W__law_well_t5 : SW :=
  (sSeq (sSet 3 (eLst (aCons (eC (.int 2147483647)) (aCons (eC (.int 2147483629)) (aCons (eC (.int 2147483587)) (aCons (eC (.int 2147483579)) (aCons (eC (.int 2147483563)) (aCons (eC (.int 2147483549)) (aCons (eC (.int 2147483543)) (aCons (eC (.int 2147483497)) aNil))))))))))
  W__law_well_t4)
/-- if _law_k < len(_law_s -/
noncomputable def W__law_well_t6 : SW :=
  (sSeq (sIf (tVal (eOp rLt' (eVar 1) (eCall rLen (aCons (eVar 0) aNil)))) (sSet 2 (eOp rIdx (eVar 0) (eVar 1))) sNil)
  W__law_well_t5)
noncomputable def W__law_well : SW :=
  (sSeq (sSet 2 (eC (.int 0)))
  W__law_well_t6)
theorem primes_at (i : Int) (h0 : 0 ≤ i) (h1 : i < 8) : ∃ c : Int, 0 < c ∧ c < 2 ^ 63 ∧ atI [D.int 2147483647, .int 2147483629, .int 2147483587, .int 2147483579, .int 2147483563, .int 2147483549, .int 2147483543, .int 2147483497] i = some (.int c) := by
  obtain ⟨n, rfl⟩ : ∃ n : Nat, i = n := ⟨i.toNat, by omega⟩
  have hn : n < 8 := by omega
  match n, hn with
  | 0, _ => exact ⟨_, by decide, by decide, rfl⟩
  | 1, _ => exact ⟨_, by decide, by decide, rfl⟩
  | 2, _ => exact ⟨_, by decide, by decide, rfl⟩
  | 3, _ => exact ⟨_, by decide, by decide, rfl⟩
  | 4, _ => exact ⟨_, by decide, by decide, rfl⟩
  | 5, _ => exact ⟨_, by decide, by decide, rfl⟩
  | 6, _ => exact ⟨_, by decide, by decide, rfl⟩
  | 7, _ => exact ⟨_, by decide, by decide, rfl⟩
section
variable {ns : List Int} {k : Nat} {A : SD} {Q : QD} {De : EndD}
theorem well_new {a b c : Int} (ha : 0 ≤ a) (hb1 : -(2 ^ 64) < b) (hb2 : b < 2 ^ 64) (hc1 : 0 < c) (hc2 : c < 2 ^ 63) (q : ∀ q A', A q = none → WellAt A' q → Oth q A A' → Q (.ref q) A') (p : Addr) (hp : A p = none) : Q (.ref p) (upA A p (.lst [.int a, .int b, .int c])) :=
  q p _ hp ⟨a, b, c, upA_same, ha, hb1, hb2, hc1, hc2⟩ Oth.up
theorem well_tail (c : Int) (hk : k < 1000) (q : ∀ q A', A q = none → WellAt A' q → Oth q A A' → De.rt (.ref q) A') : W__law_well_t5 De [some (.scr ns), some (.int k), some (.int c), none, none] A := by
  refine ⟨by decide, ?_⟩
  refine ⟨_, rfl, (show (0 : Int) < 2147483489 by decide), _, rfl, .inr ⟨by omega, by omega⟩, .inr ⟨show -(2 ^ 64) < 48271 + 2 * (k : Int) by omega, show 48271 + 2 * (k : Int) < 2 ^ 64 by omega⟩, (show (0 : Int) < 2147483489 by decide), ?_⟩
  have s1 := Int.emod_nonneg ((c % 2147483489 + 1) * (48271 + 2 * (k : Int))) (show (2147483489 : Int) ≠ 0 by decide)
  have s2 := Int.emod_lt_of_pos ((c % 2147483489 + 1) * (48271 + 2 * (k : Int))) (show (0 : Int) < 2147483489 by decide)
  refine ⟨_, rfl, _, rfl, .inl ⟨by show -(2 ^ 64) < (c % 2147483489 + 1) * (48271 + 2 * (k : Int)) % 2147483489; omega, by show (c % 2147483489 + 1) * (48271 + 2 * (k : Int)) % 2147483489 < 2 ^ 64; omega⟩, (show (0 : Int) < 2147483477 by decide), _, rfl, ?_⟩
  generalize hs : (c % 2147483489 + 1) * (48271 + 2 * (k : Int)) % 2147483489 = sd at s1 s2
  have s3 := Int.emod_nonneg (sd * sd) (show (2147483477 : Int) ≠ 0 by decide)
  have s4 := Int.emod_lt_of_pos (sd * sd) (show (0 : Int) < 2147483477 by decide)
  refine ⟨_, rfl, ⟨by decide, by decide, by decide⟩, _, rfl, ?_⟩
  have m1 := Int.emod_nonneg (k : Int) (show (8 : Int) ≠ 0 by decide)
  have m2 := Int.emod_lt_of_pos (k : Int) (show (0 : Int) < 8 by decide)
  obtain ⟨pr, p1, p2, p3⟩ := primes_at ((k : Int) % 8) m1 m2
  have e1 : (c % 2147483489 + 1) * (48271 + 2 * (k : Int)) % 2147483489 * ((c % 2147483489 + 1) * (48271 + 2 * (k : Int)) % 2147483489) % 2147483477 + (k : Int) + 1 = sd * sd % 2147483477 + (k : Int) + 1 := by rw [hs]
  by_cases h18 : (10 : Int) ^ 18 ≤ c
  · refine iteB (c := true) (decide_eq_true (by exact h18)) (iteT ?_)
    refine ⟨_, rfl, _, rfl, _, rfl, _, rfl, (show (0 : Int) < 8 by decide), (k : Int) % 8, rfl, .inl ⟨_, _, rfl, p3, by show (3 : Nat) ≤ sizeLine; decide, ?_⟩⟩
    exact well_new (by have : (0 : Int) ≤ 10 ^ 18 := by decide
                       omega) (by rw [e1]; omega) (by rw [e1]; omega) p1 p2 q
  · refine iteB (c := false) (decide_eq_false (by exact h18)) (iteF ?_)
    refine ⟨_, rfl, _, rfl, _, rfl, (show (0 : Int) < 8 by decide), (k : Int) % 8, rfl, .inl ⟨_, _, rfl, p3, by show (3 : Nat) ≤ sizeLine; decide, ?_⟩⟩
    exact well_new (by omega) (by rw [e1]; omega) (by rw [e1]; omega) p1 p2 q
end
theorem wok__law_well (ds : List D) (A : SD) (Q : QD) (h : sp__law_well ds A Q) : ds.length = 2 ∧ W__law_well { nx := fun _ A' => Q .non A', rt := Q } (startD 5 ds) A := by
  obtain ⟨ns, k, rfl, hk, q⟩ := h
  refine ⟨rfl, ?_⟩
  refine ⟨_, rfl, _, rfl, _, rfl, .inl ⟨ns.map .int, rfl, _, rfl, ?_⟩⟩
  by_cases hb : k < ns.length
  · refine iteB (c := true) (decide_eq_true (by simp; omega)) (iteT ?_)
    refine ⟨_, rfl, _, rfl, (k : Int), rfl, .inl ⟨ns.map .int, .int ns[k], rfl, ?_, ?_⟩⟩
    · rw [atI_nat (by simpa using hb)]
      simp
    exact well_tail ns[k] hk q
  · refine iteB (c := false) (decide_eq_false (by simp; omega)) (iteF ?_)
    exact well_tail 0 hk q
/-! ### whole numbers between bounds -/
def sp__law_is_int : SpD := fun ds A Q => ∃ d lo hi, ds = [d, .int lo, .int hi] ∧ rf d = true ∧ Q (.bl (isWholeD d lo hi)) A
-- slots: 0 _law_thing 1 _law_low 2 _law_high
noncomputable def W__law_is_int : SW :=
  (sRet (eAnd (eIsi (eVar 0) "int") (eAnd (eNot (eIsi (eVar 0) "bool")) (eAnd (eOp rLe' (eVar 1) (eVar 0)) (eOp rLe' (eVar 0) (eVar 2))))))
theorem wok__law_is_int (ds : List D) (A : SD) (Q : QD) (h : sp__law_is_int ds A Q) : ds.length = 3 ∧ W__law_is_int { nx := fun _ A' => Q .non A', rt := Q } (startD 3 ds) A := by
  obtain ⟨d, lo, hi, rfl, hr, q⟩ := h
  refine ⟨rfl, ?_⟩
  refine ⟨d, rfl, ty_rf hr, _, kb_int hr, _, rfl, ?_⟩
  cases d with
  | int i =>
    refine iteT ⟨_, rfl, ty_rf hr, _, kb_bool hr, _, rfl, _, rfl, iteT ⟨_, rfl, _, rfl, _, rfl, ?_⟩⟩
    by_cases h1 : lo ≤ i
    · refine iteB (c := true) (decide_eq_true h1) (iteT ⟨_, rfl, _, rfl, ?_⟩)
      simpa [isWholeD, h1] using q
    · refine iteB (c := false) (decide_eq_false h1) (iteF ?_)
      simpa [isWholeD, h1] using q
  | bl i => exact iteT ⟨_, rfl, ty_rf hr, _, kb_bool hr, _, rfl, _, rfl, iteF q⟩
  | _ => exact q
/-! ### cells in their order -/
abbrev Cell := Int × Int × Int
def cD (c : Cell) : D := .tup [.int c.1, .int c.2.1, .int c.2.2]
def CLt (a b : Cell) : Prop := a.1 < b.1 ∨ (a.1 = b.1 ∧ (a.2.1 < b.2.1 ∨ (a.2.1 = b.2.1 ∧ a.2.2 < b.2.2)))
instance (a b : Cell) : Decidable (CLt a b) := by unfold CLt; infer_instance
theorem CLt.trans {a b c : Cell} (h : CLt a b) (h' : CLt b c) : CLt a c := by unfold CLt at *; omega
theorem CLt.irrefl {a : Cell} : ¬ CLt a a := by unfold CLt; omega
theorem CLt.tri {a b : Cell} : CLt a b ∨ a = b ∨ CLt b a := by
  have e : a = b ↔ a.1 = b.1 ∧ a.2.1 = b.2.1 ∧ a.2.2 = b.2.2 := ⟨fun h => by rw [h]; exact ⟨rfl, rfl, rfl⟩, fun h => Prod.ext h.1 (Prod.ext h.2.1 h.2.2)⟩
  rw [e]
  unfold CLt
  omega
theorem cD_inj {a b : Cell} (h : cD a = cD b) : a = b := by
  simp only [cD, D.tup.injEq, List.cons.injEq, D.int.injEq, and_true] at h
  exact Prod.ext h.1 (Prod.ext h.2.1 h.2.2)
theorem ltD_cD (a b : Cell) : ltD (cD a) (cD b) = decide (CLt a b) := by
  simp only [cD, ltD, ltDs, D.int.injEq]
  by_cases h1 : a.1 = b.1
  · rw [if_pos h1]
    by_cases h2 : a.2.1 = b.2.1
    · rw [if_pos h2]
      by_cases h3 : a.2.2 = b.2.2
      · rw [if_pos h3]
        symm
        rw [decide_eq_false_iff_not]
        unfold CLt
        omega
      · rw [if_neg h3]
        apply decide_eq_decide.mpr
        unfold CLt
        omega
    · rw [if_neg h2]
      apply decide_eq_decide.mpr
      unfold CLt
      omega
  · rw [if_neg h1]
    apply decide_eq_decide.mpr
    unfold CLt
    omega
def sortC (cs : List Cell) : List Cell := cs.mergeSort fun a b => !decide (CLt b a)
theorem sortD_cD (cs : List Cell) : sortD (cs.map cD) = (sortC cs).map cD := by
  unfold sortD sortC
  rw [List.map_mergeSort]
  intro a _ b _
  rw [ltD_cD]
theorem sortC_perm (cs : List Cell) : (sortC cs).Perm cs := List.mergeSort_perm _ _
theorem sortC_up {cs : List Cell} (nd : cs.Nodup) : (sortC cs).Pairwise CLt := by
  have h := List.pairwise_mergeSort (le := fun a b : Cell => !decide (CLt b a)) (fun a b c h1 h2 => by
    simp only [Bool.not_eq_true', decide_eq_false_iff_not] at h1 h2 ⊢
    intro h3
    rcases CLt.tri (a := a) (b := b) with h | h | h
    · exact h2 (h3.trans h)
    · subst h; exact h2 h3
    · exact h1 h) (fun a b => by
    simp only [Bool.or_eq_true, Bool.not_eq_true', decide_eq_false_iff_not]
    by_cases h : CLt b a
    · exact .inr fun h' => CLt.irrefl (h.trans h')
    · exact .inl h) cs
  have nd2 : (sortC cs).Nodup := (sortC_perm cs).nodup_iff.mpr nd
  have both := List.pairwise_and_iff.mpr ⟨h, nd2⟩
  refine both.imp ?_
  intro a b hab
  obtain ⟨h1, h2⟩ := hab
  simp only [Bool.not_eq_true', decide_eq_false_iff_not] at h1
  rcases CLt.tri (a := a) (b := b) with h | h | h
  · exact h
  · exact absurd h h2
  · exact absurd h h1
theorem rising_up {cs : List Cell} (h : cs.Pairwise CLt) : risingD (cs.map cD) = true := by
  unfold risingD
  rw [List.all_eq_true]
  intro k hk
  rw [List.mem_range, List.length_map] at hk
  have h1 : k < cs.length := by omega
  have h2 : k + 1 < cs.length := by omega
  rw [List.getElem?_map, List.getElem?_map, List.getElem?_eq_getElem h1, List.getElem?_eq_getElem h2]
  show ltD (cD _) (cD _) = true
  rw [ltD_cD]
  exact decide_eq_true (List.pairwise_iff_getElem.mp h k (k + 1) h1 h2 (by omega))
end TL

/-! WD: the drawn body. -/
namespace TL
open PySem PySem.Spec L2
/-- but for the thing at q all that stood stands -/
def Frm (q : Addr) (A A' : SD) : Prop := ∀ a, a ≠ q → A a ≠ none → A' a = A a
theorem Frm.refl (q : Addr) (A : SD) : Frm q A A := fun _ _ _ => rfl
theorem Frm.trans {q : Addr} {A B C : SD} (h : Frm q A B) (h' : Frm q B C) : Frm q A C := fun a ha hn => (h' a ha (by rw [h a ha hn]; exact hn)).trans (h a ha hn)
theorem Oth.frm {q : Addr} {A B : SD} (h : Oth q A B) : Frm q A B := fun a ha _ => h a ha
theorem Frm.new {q p : Addr} {A : SD} {o : OD} (hp : A p = none) : Frm q A (upA A p o) := fun a _ hn => upA_ne (fun e => hn (by rw [e]; exact hp))
theorem Frm.up {q p : Addr} {A B : SD} {o : OD} (h : Frm q A B) (hp : A p = none) : Frm q A (upA B p o) := fun a ha hn => by
  rw [upA_ne (fun e => hn (by rw [e]; exact hp))]
  exact h a ha hn
theorem Frm.drop {q p : Addr} {A B : SD} (h : Frm q A B) (hp : A p = none) : Frm q A (TL.drop B p) := fun a ha hn => by
  rw [drop_ne (fun e => hn (by rw [e]; exact hp))]
  exact h a ha hn
theorem WellAt.ne {A : SD} {p q : Addr} (h : WellAt A q) (hp : A p = none) : q ≠ p := fun e => by
  obtain ⟨a, b, c, h1, _⟩ := h
  rw [e, hp] at h1
  cases h1
theorem WellAt.up {A : SD} {p q : Addr} {o : OD} (h : WellAt A q) (hp : q ≠ p) : WellAt (upA A p o) q := by
  obtain ⟨a, b, c, h1, h2⟩ := h
  exact ⟨a, b, c, by rw [upA_ne hp]; exact h1, h2⟩
theorem WellAt.drop {A : SD} {p q : Addr} (h : WellAt A q) (hp : q ≠ p) : WellAt (TL.drop A p) q := by
  obtain ⟨a, b, c, h1, h2⟩ := h
  exact ⟨a, b, c, by rw [drop_ne hp]; exact h1, h2⟩
theorem WellAt.some {A : SD} {q : Addr} (h : WellAt A q) : A q ≠ none := by
  obtain ⟨a, b, c, h1, _⟩ := h
  rw [h1]
  exact Option.some_ne_none _
/-! ### a dict of cells -/
def tr (c : Cell) : D × D := (cD c, .bl true)
def addC (cs : List Cell) (c : Cell) : List Cell := if c ∈ cs then cs else cs ++ [c]
theorem key_cD (c : Cell) : keyOk (cD c) = true := by
  obtain ⟨z, y, x⟩ := c
  rfl
theorem val_tr (cs : List Cell) (c : Cell) : valD (cs.map tr) (cD c) = if c ∈ cs then some (.bl true) else none := by
  unfold valD
  induction cs with
  | nil => rfl
  | cons d cs ih =>
    rw [List.map_cons, List.find?_cons]
    by_cases e : d = c
    · subst e
      simp [tr]
    · have h : decide ((tr d).1 = cD c) = false := decide_eq_false fun q => e (cD_inj q)
      rw [h]
      show Option.map _ (List.find? _ (List.map tr cs)) = _
      rw [ih]
      have : (c ∈ d :: cs) ↔ c ∈ cs := ⟨fun h => (List.mem_cons.mp h).resolve_left (fun q => e q.symm), fun h => List.mem_cons_of_mem _ h⟩
      simp only [this]
theorem put_tr (cs : List Cell) (c : Cell) : putD (cs.map tr) (cD c) (.bl true) = (addC cs c).map tr := by
  unfold putD addC
  rw [val_tr]
  by_cases h : c ∈ cs
  · rw [if_pos h, if_pos h]
    show List.map _ (List.map tr cs) = _
    rw [List.map_map]
    apply List.map_congr_left
    intro d _
    show (if cD d = cD c then (cD d, D.bl true) else (cD d, D.bl true)) = (cD d, D.bl true)
    split <;> rfl
  · rw [if_neg h, if_neg h]
    show List.map tr cs ++ [(cD c, D.bl true)] = _
    rw [List.map_append]
    rfl
/-- cells in so many layers, each once -/
structure CsOk (hi : Int) (cs : List Cell) : Prop where
  nd : cs.Nodup
  rg : ∀ c ∈ cs, 0 ≤ c.1 ∧ c.1 < hi ∧ 0 ≤ c.2.1 ∧ c.2.1 < 4 ∧ 0 ≤ c.2.2 ∧ c.2.2 < 10
theorem CsOk.add {hi : Int} {cs : List Cell} (h : CsOk hi cs) {c : Cell} (hc : 0 ≤ c.1 ∧ c.1 < hi ∧ 0 ≤ c.2.1 ∧ c.2.1 < 4 ∧ 0 ≤ c.2.2 ∧ c.2.2 < 10) : CsOk hi (addC cs c) := by
  unfold addC
  split
  · exact h
  · rename_i hn
    refine ⟨List.nodup_append.mpr ⟨h.nd, by simp, fun a ha b hb => ?_⟩, fun d hd => ?_⟩
    · simp at hb
      subst hb
      exact fun e => hn (e ▸ ha)
    · rcases List.mem_append.mp hd with hd | hd
      · exact h.rg d hd
      · simp at hd
        rw [hd]; exact hc
theorem addC_len (cs : List Cell) (c : Cell) : cs.length ≤ (addC cs c).length ∧ (addC cs c).length ≤ cs.length + 1 := by
  unfold addC
  split
  · omega
  · simp
def addAll (cs ds : List Cell) : List Cell := ds.foldl addC cs
theorem putAll_tr : ∀ (ds cs : List Cell), putAll (cs.map tr) (ds.map tr) = (addAll cs ds).map tr
  | [], _ => rfl
  | d :: ds, cs => by
    show putAll (putD (cs.map tr) (cD d) (.bl true)) (ds.map tr) = (addAll (addC cs d) ds).map tr
    rw [put_tr]
    exact putAll_tr ds _
theorem addAll_len : ∀ (ds cs : List Cell), cs.length ≤ (addAll cs ds).length ∧ (addAll cs ds).length ≤ cs.length + ds.length
  | [], cs => by unfold addAll; simp
  | d :: ds, cs => by
    have h1 := addC_len cs d
    have h2 := addAll_len ds (addC cs d)
    show cs.length ≤ (addAll (addC cs d) ds).length ∧ (addAll (addC cs d) ds).length ≤ cs.length + (d :: ds).length
    rw [List.length_cons]
    omega
theorem CsOk.addAll {hi : Int} : ∀ {ds cs : List Cell}, CsOk hi cs → (∀ c ∈ ds, 0 ≤ c.1 ∧ c.1 < hi ∧ 0 ≤ c.2.1 ∧ c.2.1 < 4 ∧ 0 ≤ c.2.2 ∧ c.2.2 < 10) → CsOk hi (addAll cs ds)
  | [], _, h, _ => h
  | d :: ds, cs, h, hd => CsOk.addAll (ds := ds) (cs := addC cs d) (h.add (hd d (by simp))) fun c hc => hd c (by simp [hc])
/-- a body of up to hi layers -/
structure BodyC (hi : Int) (cs : List Cell) : Prop where
  up : cs.Pairwise CLt
  rg : ∀ c ∈ cs, 0 ≤ c.1 ∧ c.1 < hi ∧ 0 ≤ c.2.1 ∧ c.2.1 < 4 ∧ 0 ≤ c.2.2 ∧ c.2.2 < 10
  ne : cs ≠ []
  le : cs.length ≤ 98
def sp__law_body : SpD := fun ds A Q => ∃ q hi, ds = [.ref q, .int hi] ∧ WellAt A q ∧ 0 < hi ∧ hi ≤ 8 ∧ ∀ cs A', BodyC hi cs → WellAt A' q → Frm q A A' → Q (.tup (cs.map cD)) A'
-- slots: 0 _law_well_here 1 _law_high 2 _law_found 3 _law_turn 4 _law_z 5 _law_y 6 _law_x 7 _law_step
/-- if _law_x + _law_step  -/
noncomputable def W__law_body_b1 : SW :=
  (sIf (tVal (eOp rLt' (eOp rAdd' (eVar 6) (eVar 7)) (eC (.int 10)))) (sAsg (eC (.bl true)) (gSub' (eVar 2) (eTup (aCons (eVar 4) (aCons (eVar 5) (aCons (eOp rAdd' (eVar 6) (eVar 7)) aNil)))) wDct)) sNil)
/-- for _law_step in range -/
noncomputable def W__law_body_t2 : SW :=
  (sFor (iRng1 (aCons (eOp rAdd' (eC (.int 1)) (eCall sp__law_take (aCons (eVar 0) (aCons (eC (.int 6)) aNil)))) aNil)) (gVar 7)
  W__law_body_b1)
/-- _law_z, _law_y, _law_x -/
noncomputable def W__law_body_b3 : SW :=
  (sSeq (sPar3 4 5 6 (aCons (eCall sp__law_take (aCons (eVar 0) (aCons (eVar 1) aNil))) (aCons (eCall sp__law_take (aCons (eVar 0) (aCons (eC (.int 4)) aNil))) (aCons (eCall sp__law_take (aCons (eVar 0) (aCons (eC (.int 10)) aNil))) aNil))))
  W__law_body_t2)
/-- return tuple(sorted(_l -/
noncomputable def W__law_body_t4 : SW :=
  (sRet (eCall rTup (aCons (eCall rSortD (aCons (eVar 2) aNil)) aNil)))
/-- if _law_take(_law_well -/
noncomputable def W__law_body_t5 : SW :=
  (sSeq (sIf (tVal (eOp rEq' (eCall sp__law_take (aCons (eVar 0) (aCons (eC (.int 3)) aNil))) (eC (.int 0)))) (sExpr (eM "dict" rUpdT (eVar 2) (aCons (eLc (iSeq (eCall rListD (aCons (eVar 2) aNil))) (gTup' 3 (gsCons (gVar 4) (gsCons (gVar 5) (gsCons (gVar 6) gsNil)))) tYesE (eTup (aCons (eTup (aCons (eC (.int 0)) (aCons (eVar 5) (aCons (eVar 6) aNil)))) (aCons (eC (.bl true)) aNil))) [4, 5, 6]) aNil))) sNil)
  W__law_body_t4)
/-- for _law_turn in range -/
noncomputable def W__law_body_t6 : SW :=
  (sSeq (sFor (iRng1 (aCons (eCall sp__law_take (aCons (eVar 0) (aCons (eC (.int 9)) aNil))) aNil)) (gVar 3)
  W__law_body_b3)
  W__law_body_t5)
noncomputable def W__law_body : SW :=
  (sSeq (sSet 2 (eDctI (eTup (aCons (eCall sp__law_take (aCons (eVar 0) (aCons (eVar 1) aNil))) (aCons (eCall sp__law_take (aCons (eVar 0) (aCons (eC (.int 4)) aNil))) (aCons (eCall sp__law_take (aCons (eVar 0) (aCons (eC (.int 10)) aNil))) aNil)))) (eC (.bl true))))
  W__law_body_t6)
theorem sok_cD (cs : List Cell) : Sok (cs.map cD) := by
  refine ⟨fun d hd => ?_, fun d hd e he => ?_, .inl fun d hd => ?_⟩
  · obtain ⟨c, _, rfl⟩ := List.mem_map.mp hd; rfl
  · obtain ⟨c, _, rfl⟩ := List.mem_map.mp hd
    obtain ⟨c', _, rfl⟩ := List.mem_map.mp he
    rfl
  · obtain ⟨c, _, rfl⟩ := List.mem_map.mp hd; exact ⟨_, _, rfl⟩
theorem tr_keys (cs : List Cell) : (cs.map tr).map (·.1) = cs.map cD := by
  rw [List.map_map]; rfl
section
variable {A : SD} {q p : Addr} {hi : Int} {De : EndD}
theorem small_size {n : Nat} (h : n ≤ 100000) : n ≤ sizeLine := by
  have hs : (sizeLine : Nat) = 16777216 := sizeLine_eq
  omega
theorem body_ret {env : ED} {cs : List Cell} {B : SD} (he : env[2]? = some (some (.ref p))) (hB : B p = some (.dct (cs.map tr))) (ok : CsOk hi cs) (hne : cs ≠ []) (hl : cs.length ≤ 98) (hw : WellAt B q) (fr : Frm q A B)
    (k : ∀ cs A', BodyC hi cs → WellAt A' q → Frm q A A' → De.rt (.tup (cs.map cD)) A') : W__law_body_t4 De env B := by
  refine ⟨_, he, p, cs.map tr, rfl, by simp [dv, hB], small_size (by rw [List.length_map]; omega), by rw [tr_keys]; exact sok_cD cs, ?_⟩
  refine ⟨_, _, rfl, rfl, ?_⟩
  rw [tr_keys, sortD_cD]
  have hp := sortC_perm cs
  exact k _ B ⟨sortC_up ok.nd, fun c hc => ok.rg c (hp.mem_iff.mp hc), fun e => hne (by have := hp.length_eq; rw [e] at this; exact List.eq_nil_of_length_eq_zero this.symm), by rw [hp.length_eq]; exact hl⟩ hw fr
theorem body_more {env : ED} {cs : List Cell} {B : SD} (h0 : env[0]? = some (some (.ref q))) (he : env[2]? = some (some (.ref p))) (hpq : q ≠ p) (hA : A p = none) (hB : B p = some (.dct (cs.map tr))) (ok : CsOk hi cs) (hhi : 0 < hi) (hne : cs ≠ []) (hl : cs.length ≤ 49) (hw : WellAt B q) (fr : Frm q A B)
    (hlen : env.length = 8) (k : ∀ cs A', BodyC hi cs → WellAt A' q → Frm q A A' → De.rt (.tup (cs.map cD)) A') : W__law_body_t5 De env B := by
  refine ⟨_, h0, q, 3, rfl, hw, by decide, by decide, fun r B1 r0 r1 hw1 ot => ?_⟩
  have hB1 : B1 p = some (.dct (cs.map tr)) := by rw [ot p (fun e => hpq e.symm)]; exact hB
  have fr1 : Frm q A B1 := fr.trans ot.frm
  refine ⟨rfl, rfl, _, rfl, ?_⟩
  by_cases h3 : r = 0
  · refine iteB (c := true) (decide_eq_true (congrArg D.int h3)) (iteT ?_)
    refine ⟨_, he, by simp [tyM, hB1], ?_⟩
    refine ⟨_, he, p, cs.map tr, rfl, by simp [dv, hB1], small_size (by rw [List.length_map]; omega), _, rfl, fun hz => ?_⟩
    rw [tr_keys]
    refine lc_pure (f := fun d => match d with | .tup [_, .int y, .int x] => some (.tup [cD (0, y, x), .bl true]) | _ => none) (by rw [List.length_map]; exact small_size (by omega)) ?_ ?_ ?_
    · exact fun _ _ _ => rfl
    · intro l hl d hd acc Qy Qn h
      obtain ⟨c, hc, rfl⟩ := List.mem_map.mp hd
      refine ⟨_, rfl, rfl, _, _, rfl, _, _, rfl, _, _, rfl, rfl, ?_⟩
      simp only [w_yes, ↓reduceIte]
      have e1 : ((((wipeE env [4, 5, 6]).set 4 (some (D.int c.1))).set 5 (some (D.int c.2.1))).set 6 (some (D.int c.2.2)))[5]? = some (some (D.int c.2.1)) := by
        rw [List.getElem?_set_ne (by decide), List.getElem?_set_self (by rw [List.length_set, wipeE_length, hlen]; decide)]
      have e2 : ((((wipeE env [4, 5, 6]).set 4 (some (D.int c.1))).set 5 (some (D.int c.2.1))).set 6 (some (D.int c.2.2)))[6]? = some (some (D.int c.2.2)) := by
        rw [List.getElem?_set_self (by rw [List.length_set, List.length_set, wipeE_length, hlen]; decide)]
      exact ⟨_, e1, _, e2, small_size (show 3 ≤ 100000 by decide), small_size (show 2 ≤ 100000 by decide), h⟩
    · intro l hl
      rw [drop_upA hl]
      have e : (cs.map cD).filterMap (fun d => match d with | .tup [_, .int y, .int x] => some (D.tup [cD (0, y, x), .bl true]) | _ => none) = (cs.map fun c => ((0 : Int), c.2.1, c.2.2)).map (fun c => D.tup [cD c, .bl true]) := by
        rw [List.filterMap_map, List.map_map, ← List.filterMap_eq_map]
        rfl
      rw [e]
      refine ⟨p, _, cs.map tr, (cs.map fun c => ((0 : Int), c.2.1, c.2.2)).map tr, rfl, rfl, hB1, ?_, fun kv hkv => ?_, small_size (by simp; omega), ?_⟩
      · show some _ = some _
        rw [List.map_map, List.map_map, List.map_map]
        rfl
      · obtain ⟨c, _, rfl⟩ := List.mem_map.mp hkv
        exact key_cD c
      · rw [putAll_tr]
        have l1 := addAll_len (cs.map fun c => ((0 : Int), c.2.1, c.2.2)) cs
        rw [List.length_map] at l1
        refine body_ret (A := A) (p := p) (cs := addAll cs (cs.map fun c => ((0 : Int), c.2.1, c.2.2))) he upA_same (CsOk.addAll ok fun c hc => ?_) (fun e0 => ?_) (by omega) (hw1.up hpq) (fr1.up hA) k
        · obtain ⟨d, hd, rfl⟩ := List.mem_map.mp hc
          have := ok.rg d hd
          exact ⟨Int.le_refl 0, hhi, this.2.2⟩
        · rw [e0] at l1
          have : cs.length = 0 := by
            have := l1.1
            simpa using this
          exact hne (List.eq_nil_of_length_eq_zero this)
  · refine iteB (c := false) (decide_eq_false fun e => h3 (D.int.inj e)) (iteF ?_)
    exact body_ret (A := A) (p := p) he hB1 ok hne (by omega) hw1 fr1 k
end
end TL

/-! WE: the drawn body, its loops. -/
namespace TL
open PySem PySem.Spec L2
section
variable {A : SD} {q p : Addr} {hi : Int} {De : EndD}
/-- what stands in the loops -/
structure InB (A : SD) (q p : Addr) (hi : Int) (n : Nat) (env : ED) (B : SD) : Prop where
  len : env.length = 8
  e0 : env[0]? = some (some (.ref q))
  e1 : env[1]? = some (some (.int hi))
  e2 : env[2]? = some (some (.ref p))
  well : WellAt B q
  fr : Frm q A B
  cs : ∃ cs : List Cell, B p = some (.dct (cs.map tr)) ∧ CsOk hi cs ∧ cs ≠ [] ∧ cs.length ≤ n
theorem InB.oth {n : Nat} {env : ED} {B B' : SD} (h : InB A q p hi n env B) (hpq : q ≠ p) (o : Oth q B B') (w : WellAt B' q) : InB A q p hi n env B' :=
  ⟨h.len, h.e0, h.e1, h.e2, w, h.fr.trans o.frm, let ⟨cs, h1, h2⟩ := h.cs; ⟨cs, by rw [o p (fun e => hpq e.symm)]; exact h1, h2⟩⟩
theorem InB.set {n : Nat} {env : ED} {B : SD} (h : InB A q p hi n env B) {i : Nat} {v : Option D} (hi3 : 3 ≤ i) : InB A q p hi n (env.set i v) B :=
  ⟨by rw [List.length_set]; exact h.len, by rw [List.getElem?_set_ne (by omega)]; exact h.e0, by rw [List.getElem?_set_ne (by omega)]; exact h.e1, by rw [List.getElem?_set_ne (by omega)]; exact h.e2, h.well, h.fr, h.cs⟩
theorem InB.le {n m : Nat} {env : ED} {B : SD} (h : InB A q p hi n env B) (hm : n ≤ m) : InB A q p hi m env B :=
  ⟨h.len, h.e0, h.e1, h.e2, h.well, h.fr, let ⟨cs, h1, h2, h3, h4⟩ := h.cs; ⟨cs, h1, h2, h3, by omega⟩⟩
theorem body_step {n : Nat} {env : ED} {B : SD} {N : ED → SD → Prop} (I : InB A q p hi n env B) (hpq : q ≠ p) (hA : A p = none) (hn : n ≤ 49) {z y x s : Int} (e4 : env[4]? = some (some (.int z))) (e5 : env[5]? = some (some (.int y))) (e6 : env[6]? = some (some (.int x))) (e7 : env[7]? = some (some (.int s)))
    (rz : 0 ≤ z ∧ z < hi) (ry : 0 ≤ y ∧ y < 4) (rx : 0 ≤ x ∧ x < 10) (hs : 0 ≤ s) (k : ∀ B', InB A q p hi (n + 1) env B' → N env B') : W__law_body_b1 { nx := N, rt := De.rt, bk := De.nx, ct := N } env B := by
  refine ⟨_, e6, _, e7, _, rfl, ?_⟩
  by_cases h : x + s < 10
  · refine iteB (c := true) (decide_eq_true h) (iteT ?_)
    obtain ⟨cs, c1, c2, c3, c4⟩ := I.cs
    refine ⟨_, I.e2, _, e4, _, e5, _, e6, _, e7, small_size (show 3 ≤ 100000 by decide), p, cs.map tr, rfl, c1, rfl, (by rw [List.length_map]; have hs : (sizeLine : Nat) = 16777216 := sizeLine_eq; omega), ?_⟩
    have ep : putD (cs.map tr) (.tup [.int z, .int y, .int (x + s)]) (.bl true) = (addC cs (z, y, x + s)).map tr := put_tr cs (z, y, x + s)
    rw [ep]
    have l := addC_len cs (z, y, x + s)
    refine k _ ⟨I.len, I.e0, I.e1, I.e2, I.well.up hpq, I.fr.up hA, addC cs (z, y, x + s), upA_same, c2.add ⟨rz.1, rz.2, ry.1, ry.2, by show 0 ≤ x + s; omega, h⟩, fun e => ?_, by omega⟩
    rw [e] at l
    exact c3 (List.eq_nil_of_length_eq_zero (by have := l.1; simpa using this))
  · refine iteB (c := false) (decide_eq_false h) (iteF ?_)
    exact k B (I.le (by omega))
theorem body_turn {n : Nat} {env : ED} {B : SD} {N : ED → SD → Prop} (I : InB A q p hi n env B) (hpq : q ≠ p) (hA : A p = none) (hhi : 0 < hi) (hhi2 : hi ≤ 8) (hn : n ≤ 43) (k : ∀ env' B', InB A q p hi (n + 6) env' B' → N env' B') : W__law_body_b3 { nx := N, rt := De.rt, bk := De.nx, ct := N } env B := by
  refine ⟨_, I.e0, _, I.e1, q, hi, rfl, I.well, hhi, by omega, fun z B1 z0 z1 w1 o1 => ?_⟩
  have I1 := I.oth hpq o1 w1
  refine ⟨_, I.e0, q, 4, rfl, w1, by decide, by decide, fun y B2 y0 y1 w2 o2 => ?_⟩
  have I2 := I1.oth hpq o2 w2
  refine ⟨_, I.e0, q, 10, rfl, w2, by decide, by decide, fun x B3 x0 x1 w3 o3 => ?_⟩
  have I3 := ((I2.oth hpq o3 w3).set (i := 4) (v := some (.int z)) (by decide)).set (i := 5) (v := some (.int y)) (by decide) |>.set (i := 6) (v := some (.int x)) (by decide)
  refine ⟨_, _, _, rfl, ?_⟩
  refine ⟨_, I3.e0, q, 6, rfl, I3.well, by decide, by decide, fun m B4 m0 m1 w4 o4 => ?_⟩
  have I4 := I3.oth hpq o4 w4
  refine ⟨_, rfl, by show -(2 ^ 62) ≤ 1 + m; omega, small_size (by show (1 + m).toNat ≤ 100000; omega), fun hz => ?_⟩
  have hl := I.len
  refine for_inv (fun j env' B' => InB A q p hi (n + j) env' B' ∧ env'[4]? = some (some (.int z)) ∧ env'[5]? = some (some (.int y)) ∧ env'[6]? = some (some (.int x))) (fun j d N' hd hN env' B' hI => ⟨trivial, ?_⟩) (fun env' B' hI => ⟨trivial, ?_⟩) ⟨I4, ?_, ?_, ?_⟩
  · obtain ⟨J, f4, f5, f6⟩ := hI
    obtain ⟨hj, rfl⟩ := intsD_get hd
    have hj' : j < (1 + m).toNat := hj
    refine body_step (J.set (i := 7) (by decide)) hpq hA (by omega) (z := z) (y := y) (x := x) (s := 0 + (j : Nat) * 1) ?_ ?_ ?_ ?_ ⟨z0, z1⟩ ⟨y0, y1⟩ ⟨x0, x1⟩ (by omega) fun B'' I'' => ?_
    · rw [List.getElem?_set_ne (by decide)]; exact f4
    · rw [List.getElem?_set_ne (by decide)]; exact f5
    · rw [List.getElem?_set_ne (by decide)]; exact f6
    · rw [List.getElem?_set_self (by rw [J.len]; decide)]
    · refine hN _ _ ⟨by rw [← Nat.add_assoc]; exact I'', ?_, ?_, ?_⟩
      · rw [List.getElem?_set_ne (by decide)]; exact f4
      · rw [List.getElem?_set_ne (by decide)]; exact f5
      · rw [List.getElem?_set_ne (by decide)]; exact f6
  · rw [intsD_len] at hI
    exact k _ _ (hI.1.le (by have : (1 + m).toNat ≤ 6 := by omega
                             show n + (1 + m).toNat ≤ n + 6
                             omega))
  · rw [List.getElem?_set_ne (by decide), List.getElem?_set_ne (by decide), List.getElem?_set_self (by rw [hl]; decide)]
  · rw [List.getElem?_set_ne (by decide), List.getElem?_set_self (by rw [List.length_set, hl]; decide)]
  · rw [List.getElem?_set_self (by rw [List.length_set, List.length_set, hl]; decide)]
end
theorem wok__law_body (ds : List D) (A : SD) (Q : QD) (h : sp__law_body ds A Q) : ds.length = 2 ∧ W__law_body { nx := fun _ A' => Q .non A', rt := Q } (startD 8 ds) A := by
  obtain ⟨q, hi, rfl, hw, hhi, hhi2, k⟩ := h
  refine ⟨rfl, ?_⟩
  intro p hp
  have hpq : q ≠ p := hw.ne hp
  refine ⟨_, rfl, _, rfl, q, hi, rfl, hw.up hpq, hhi, by omega, fun z B1 z0 z1 w1 o1 => ?_⟩
  refine ⟨_, rfl, q, 4, rfl, w1, by decide, by decide, fun y B2 y0 y1 w2 o2 => ?_⟩
  refine ⟨_, rfl, q, 10, rfl, w2, by decide, by decide, fun x B3 x0 x1 w3 o3 => ?_⟩
  have hB3 : B3 p = some (.dct []) := by
    rw [o3 p (fun e => hpq e.symm), o2 p (fun e => hpq e.symm), o1 p (fun e => hpq e.symm), upA_same]
  have fr3 : Frm q A B3 := (((Frm.new (q := q) hp).trans o1.frm).trans o2.frm).trans o3.frm
  refine ⟨small_size (show 3 ≤ 100000 by decide), rfl, hB3, ?_⟩
  have I0 : InB A q p hi 1 ((startD 8 [.ref q, .int hi]).set 2 (some (.ref p))) (upA B3 p (.dct [(cD (z, y, x), .bl true)])) :=
    ⟨rfl, rfl, rfl, rfl, w3.up hpq, fr3.up hp, [(z, y, x)], upA_same, ⟨by simp, fun c hc => by
      simp at hc
      subst hc
      exact ⟨z0, z1, y0, y1, x0, x1⟩⟩, by simp, by simp⟩
  refine ⟨_, I0.e0, q, 9, rfl, I0.well, by decide, by decide, fun m B4 m0 m1 w4 o4 => ?_⟩
  have I4 := I0.oth hpq o4 w4
  refine ⟨_, rfl, by omega, small_size (by omega), fun hz => ?_⟩
  refine for_inv (fun j env' B' => InB A q p hi (1 + 6 * j) env' B') (fun j d N' hd hN env' B' hI => ⟨trivial, ?_⟩) (fun env' B' hI => ⟨trivial, ?_⟩) I4
  · obtain ⟨hj, rfl⟩ := intsD_get hd
    refine body_turn (hI.set (i := 3) (by decide)) hpq hp hhi hhi2 (by omega) fun env'' B'' I'' => hN _ _ ?_
    exact I''.le (by omega)
  · rw [intsD_len] at hI
    obtain ⟨cs, c1, c2, c3, c4⟩ := hI.cs
    exact body_more hI.e0 hI.e2 hpq hp c1 c2 hhi c3 (by omega) hI.well hI.fr hI.len k
end TL

/-! WF: rows. -/
namespace TL
open PySem PySem.Spec L2
theorem atI0 {α : Type} {x : α} {r : List α} : atI (x :: r) 0 = some x := by
  have h := atI_nat (xs := x :: r) (k := 0) (by simp)
  simpa using h
abbrev sGo : Str := Str.ofString "go"
abbrev sLay : Str := Str.ofString "lay"
abbrev sUp : Str := Str.ofString "up"
abbrev sStuff : Str := Str.ofString "stuff"
abbrev sWait : Str := Str.ofString "wait"
/-- a row by itself -/
def isRowD : D → Bool
  | .tup [.str s] => decide (s = sUp)
  | .tup [.str s, a] => if s = sStuff then isWholeD a 0 1 else if s = sWait then isWholeD a 1 1000 else false
  | .tup [.str s, a, b] => if s = sGo ∨ s = sLay then isWholeD a 0 9 && isWholeD b 0 9 else false
  | _ => false
def partsN (s : Str) : Int := match tabD tab_PARTS s with
  | some i => i
  | none => 0
theorem partsN_eq (s : Str) : partsN s = if s = sGo then 3 else if s = sLay then 3 else if s = sUp then 1 else if s = sStuff then 2 else if s = sWait then 2 else 0 := by
  by_cases h1 : s = sGo
  · subst h1; decide +kernel
  by_cases h2 : s = sLay
  · subst h2; decide +kernel
  by_cases h3 : s = sUp
  · subst h3; decide +kernel
  by_cases h4 : s = sStuff
  · subst h4; decide +kernel
  by_cases h5 : s = sWait
  · subst h5; decide +kernel
  have e : ∀ a : Str, (decide (a = s)) = decide (s = a) := fun a => decide_eq_decide.mpr ⟨Eq.symm, Eq.symm⟩
  unfold partsN tabD tab_PARTS
  simp only [List.find?_cons, List.find?_nil, e]
  simp [h1, h2, h3, h4, h5]
def sp_is_row : SpD := fun ds A Q => ∃ d, ds = [d] ∧ rf d = true ∧ Q (.bl (isRowD d)) A
-- slots: 0 thing
/-- return thing[0] == 'up -/
noncomputable def W_is_row_t1 : SW :=
  (sRet (eOr (eOp rEq' (eOp rIdx (eVar 0) (eC (.int 0))) (eC (.str (PySem.Str.ofString "up")))) (eCall sp_is_whole (aCons (eOp rIdx (eVar 0) (eC (.int 1))) (aCons (eC (.int 1)) (aCons (eC c_MOST_WAIT) aNil))))))
/-- if thing[0] == 'stuff' -/
noncomputable def W_is_row_t2 : SW :=
  (sSeq (sIf (tVal (eOp rEq' (eOp rIdx (eVar 0) (eC (.int 0))) (eC (.str (PySem.Str.ofString "stuff"))))) (sRet (eCall sp_is_whole (aCons (eOp rIdx (eVar 0) (eC (.int 1))) (aCons (eC (.int 0)) (aCons (eC (.int 1)) aNil))))) sNil)
  W_is_row_t1)
/-- if thing[0] in ('go',  -/
noncomputable def W_is_row_t3 : SW :=
  (sSeq (sIf (tVal (eOp rIn' (eOp rIdx (eVar 0) (eC (.int 0))) (eTup (aCons (eC (.str (PySem.Str.ofString "go"))) (aCons (eC (.str (PySem.Str.ofString "lay"))) aNil))))) (sRet (eAnd (eCall sp_is_whole (aCons (eOp rIdx (eVar 0) (eC (.int 1))) (aCons (eC (.int 0)) (aCons (eC c_EDGE) aNil)))) (eCall sp_is_whole (aCons (eOp rIdx (eVar 0) (eC (.int 2))) (aCons (eC (.int 0)) (aCons (eC c_EDGE) aNil)))))) sNil)
  W_is_row_t2)
/-- if PARTS.get(thing[0], -/
noncomputable def W_is_row_t4 : SW :=
  (sSeq (sIf (tVal (eOp rNe' (eModG tab_PARTS (eOp rIdx (eVar 0) (eC (.int 0))) (eC (.int 0))) (eCall rLen (aCons (eVar 0) aNil)))) (sRet (eC (.bl false))) sNil)
  W_is_row_t3)
noncomputable def W_is_row : SW :=
  (sSeq (sIf (tOr' (tNot' (tVal (eIsi (eVar 0) "tuple"))) (tOr' (tVal (eOp rEq' (eCall rLen (aCons (eVar 0) aNil)) (eC (.int 0)))) (tNot' (tVal (eIsi (eOp rIdx (eVar 0) (eC (.int 0))) "str"))))) (sRet (eC (.bl false))) sNil)
  W_is_row_t4)
theorem str_ne : sGo ≠ sLay ∧ sGo ≠ sUp ∧ sGo ≠ sStuff ∧ sGo ≠ sWait ∧ sLay ≠ sUp ∧ sLay ≠ sStuff ∧ sLay ≠ sWait ∧ sUp ≠ sStuff ∧ sUp ≠ sWait ∧ sStuff ≠ sWait := by decide
section
variable {A : SD} {Q : QD} {De : EndD}
theorem row_t2 {s : Str} {r : List D} (hr : rfs r = true) (hn : partsN s = 1 + (r.length : Int)) (h1 : s ≠ sGo) (h2 : s ≠ sLay) (q : De.rt (.bl (isRowD (.tup (.str s :: r)))) A) : W_is_row_t2 De [some (.tup (.str s :: r))] A := by
  rw [partsN_eq, if_neg h1, if_neg h2] at hn
  refine ⟨_, rfl, 0, rfl, .inl ⟨_, _, rfl, atI0, rfl, rfl, _, rfl, ?_⟩⟩
  by_cases h4 : s = sStuff
  · subst h4
    refine iteB (c := true) (decide_eq_true rfl) (iteT ?_)
    rw [if_neg (fun e => str_ne.2.2.2.2.2.2.2.1 e.symm), if_pos rfl] at hn
    match r, hr, hn, q with
    | [a], hr, _, q =>
      simp only [rfs, Bool.and_true] at hr
      exact ⟨_, rfl, 1, rfl, .inl ⟨_, _, rfl, rfl, a, 0, 1, rfl, hr, by simpa [isRowD] using q⟩⟩
    | [], _, hn, _ => simp at hn
    | _ :: _ :: _, _, hn, _ => simp at hn; omega
  · refine iteB (c := false) (decide_eq_false fun e => h4 (D.str.inj e)) (iteF ?_)
    refine ⟨_, rfl, 0, rfl, .inl ⟨_, _, rfl, atI0, rfl, rfl, _, rfl, ?_⟩⟩
    by_cases h3 : s = sUp
    · subst h3
      refine iteB (c := true) (decide_eq_true rfl) (iteT ?_)
      rw [if_pos rfl] at hn
      match r, hn, q with
      | [], _, q => simpa [isRowD] using q
      | _ :: _, hn, _ => simp at hn; omega
    · refine iteB (c := false) (decide_eq_false fun e => h3 (D.str.inj e)) (iteF ?_)
      rw [if_neg h3, if_neg h4] at hn
      by_cases h5 : s = sWait
      · subst h5
        rw [if_pos rfl] at hn
        match r, hr, hn, q with
        | [a], hr, _, q =>
          simp only [rfs, Bool.and_true] at hr
          exact ⟨_, rfl, 1, rfl, .inl ⟨_, _, rfl, rfl, a, 1, 1000, rfl, hr, by simpa [isRowD, h4] using q⟩⟩
        | [], _, hn, _ => simp at hn
        | _ :: _ :: _, _, hn, _ => simp at hn; omega
      · rw [if_neg h5] at hn
        omega
theorem row_t4 {s : Str} {r : List D} (hr : rfs r = true) (q : De.rt (.bl (isRowD (.tup (.str s :: r)))) A) : W_is_row_t4 De [some (.tup (.str s :: r))] A := by
  refine ⟨_, rfl, 0, rfl, .inl ⟨_, _, rfl, atI0, s, _, rfl, ?_⟩⟩
  have en : modV tab_PARTS s (.int 0) = .int (partsN s) := by
    unfold partsN modV
    cases tabD tab_PARTS s <;> rfl
  rw [en]
  refine ⟨_, rfl, _, rfl, .inl ⟨_, rfl, rfl, rfl, _, rfl, ?_⟩⟩
  by_cases hn : partsN s = 1 + (r.length : Int)
  · refine iteB (c := false) ?_ (iteF ?_)
    · show (!decide (D.int (partsN s) = D.int ((List.length (D.str s :: r) : Nat) : Int))) = false
      rw [decide_eq_true (by rw [hn, List.length_cons]; congr 1; omega)]
      rfl
    · refine ⟨_, rfl, 0, rfl, .inl ⟨_, _, rfl, atI0, small_size (show 2 ≤ 100000 by decide), _, rfl, rfl, rfl, _, rfl, ?_⟩⟩
      by_cases h12 : s = sGo ∨ s = sLay
      · refine iteB (c := true) (decide_eq_true (by rcases h12 with h | h <;> rw [h] <;> simp)) (iteT ?_)
        have hn2 : r.length = 2 := by
          rw [partsN_eq] at hn
          rcases h12 with h | h
          · rw [if_pos h] at hn; omega
          · rw [if_neg (fun e => str_ne.1 (e.symm.trans h)), if_pos h] at hn; omega
        match r, hr, hn2, q with
        | [a, b], hr, _, q =>
          simp only [rfs, Bool.and_eq_true] at hr
          refine ⟨_, rfl, 1, rfl, .inl ⟨_, _, rfl, rfl, a, 0, 9, rfl, hr.1, _, rfl, ?_⟩⟩
          cases e : isWholeD a 0 9 with
          | false =>
            refine iteF ?_
            simpa [isRowD, h12, e] using q
          | true =>
            refine iteT ⟨_, rfl, 2, rfl, .inl ⟨_, _, rfl, rfl, b, 0, 9, rfl, hr.2.1, ?_⟩⟩
            simpa [isRowD, h12, e] using q
      · refine iteB (c := false) (decide_eq_false fun e => h12 (by simpa using e)) (iteF ?_)
        exact row_t2 hr hn (fun e => h12 (.inl e)) (fun e => h12 (.inr e)) q
  · refine iteB (c := true) ?_ (iteT ?_)
    · show (!decide (D.int (partsN s) = D.int ((List.length (D.str s :: r) : Nat) : Int))) = true
      rw [decide_eq_false (fun e => hn (by have := D.int.inj e; rw [List.length_cons] at this; omega))]
      rfl
    · have e : isRowD (.tup (.str s :: r)) = false := by
        rw [partsN_eq] at hn
        match r, hn with
        | [], hn =>
          show decide (s = sUp) = false
          refine decide_eq_false fun e => hn ?_
          subst e
          rw [if_neg (Ne.symm str_ne.2.1), if_neg (Ne.symm str_ne.2.2.2.2.1), if_pos rfl]
          rfl
        | [a], hn =>
          show (if s = sStuff then isWholeD a 0 1 else if s = sWait then isWholeD a 1 1000 else false) = false
          by_cases h4 : s = sStuff
          · subst h4
            exact absurd (by rw [if_neg (Ne.symm str_ne.2.2.1), if_neg (Ne.symm str_ne.2.2.2.2.2.1), if_neg (Ne.symm str_ne.2.2.2.2.2.2.2.1), if_pos rfl]; rfl) hn
          · rw [if_neg h4]
            by_cases h5 : s = sWait
            · subst h5
              exact absurd (by rw [if_neg (Ne.symm str_ne.2.2.2.1), if_neg (Ne.symm str_ne.2.2.2.2.2.2.1), if_neg (Ne.symm str_ne.2.2.2.2.2.2.2.2.1), if_neg (Ne.symm str_ne.2.2.2.2.2.2.2.2.2), if_pos rfl]; rfl) hn
            · rw [if_neg h5]
        | [a, b], hn =>
          show (if s = sGo ∨ s = sLay then isWholeD a 0 9 && isWholeD b 0 9 else false) = false
          refine if_neg fun h12 => hn ?_
          rcases h12 with h | h
          · rw [if_pos h]; rfl
          · rw [if_neg (fun e => str_ne.1 (e.symm.trans h)), if_pos h]; rfl
        | _ :: _ :: _ :: _, _ => rfl
      rw [e] at q
      exact q
end
theorem not_row_head {y : D} {r : List D} (hy : ∀ s, y ≠ .str s) : isRowD (.tup (y :: r)) = false := by
  unfold isRowD
  split <;> simp_all
theorem wok_is_row (ds : List D) (A : SD) (Q : QD) (h : sp_is_row ds A Q) : ds.length = 1 ∧ W_is_row { nx := fun _ A' => Q .non A', rt := Q } (startD 1 ds) A := by
  obtain ⟨d, rfl, hr, q⟩ := h
  refine ⟨rfl, ?_⟩
  refine ⟨d, rfl, ty_rf hr, _, kb_tup hr, _, rfl, ?_⟩
  cases d with
  | tup xs =>
    refine iteF ⟨_, rfl, _, rfl, .inl ⟨xs, rfl, rfl, rfl, _, rfl, ?_⟩⟩
    cases xs with
    | nil =>
      refine iteB (c := true) (decide_eq_true rfl) (iteT (iteT ?_))
      exact q
    | cons x r =>
      refine iteB (c := false) (decide_eq_false fun e => by have := D.int.inj e; rw [List.length_cons] at this; omega) (iteF ?_)
      simp only [rf, rfs, Bool.and_eq_true] at hr
      refine ⟨_, rfl, 0, rfl, .inl ⟨_, _, rfl, atI0, ty_rf hr.1, _, kb_str hr.1, _, rfl, ?_⟩⟩
      cases x with
      | str s => exact iteF (row_t4 hr.2 q)
      | _ =>
        refine iteT ?_
        rw [not_row_head (fun s h => by cases h)] at q
        exact q
  | _ => exact iteT (iteT q)
end TL

/-! WG: numbers and rows as texts. -/
namespace TL
open PySem PySem.Spec L2
abbrev numS (n : Nat) : Str := Str.ofString (toString ((n : Nat) : Int))
theorem len_numS (n : Nat) : (numS n).length = (numL n).length := by
  rw [len_tl, tl_num]
theorem numL_head : ∀ n : Nat, 0 < n → ∃ c r, numL n = c :: r ∧ c ≠ 48 := by
  intro n
  induction n using Nat.strongRecOn with
  | _ n ih =>
    intro hn
    by_cases h : n < 10
    · exact ⟨_, _, numL_lt h, by omega⟩
    · obtain ⟨c, r, h1, h2⟩ := ih (n / 10) (by omega) (by omega)
      exact ⟨c, r ++ [48 + n % 10], by rw [numL_step (by omega), h1]; rfl, h2⟩
def sp_number_at : SpD := fun ds A Q => ∃ n : Nat, ds = [.str (numS n)] ∧ n < 10000 ∧ Q (.int (n : Nat)) A
-- slots: 0 word 1 sign
/-- return int(word) -/
noncomputable def W_number_at_t1 : SW :=
  (sRet (eCall rIntS (aCons (eVar 0) aNil)))
/-- if word[0] == '0' and  -/
noncomputable def W_number_at_t2 : SW :=
  (sSeq (sIf (tAnd' (tVal (eOp rEq' (eOp rIdx (eVar 0) (eC (.int 0))) (eC (.str (PySem.Str.ofString "0"))))) (tVal (eOp rNe' (eVar 0) (eC (.str (PySem.Str.ofString "0")))))) sNever sNil)
  W_number_at_t1)
noncomputable def W_number_at : SW :=
  (sSeq (sIf (tOr' (tNot' (tVal (eChain rLe' rLe' (eC (.int 1)) (eCall rLen (aCons (eVar 0) aNil)) (eC c_MOST_FIGURES)))) (tNot' (tVal (eCall rAll' (aCons (eLc (iStr' (eVar 0)) (gVar 1) tYesE (eOp rInS (eVar 1) (eC c_FIGURES)) [1]) aNil))))) sNever sNil)
  W_number_at_t2)
theorem figs (c : Nat) : decide (c ∈ (Str.ofString "0123456789").cps.toList) = decide (48 ≤ c ∧ c ≤ 57) := by
  have e : (Str.ofString "0123456789").cps.toList = [48, 49, 50, 51, 52, 53, 54, 55, 56, 57] := by decide +kernel
  rw [e]
  apply decide_eq_decide.mpr
  simp only [List.mem_cons, List.not_mem_nil, or_false]
  omega
theorem wok_number_at (ds : List D) (A : SD) (Q : QD) (h : sp_number_at ds A Q) : ds.length = 1 ∧ W_number_at { nx := fun _ A' => Q .non A', rt := Q } (startD 2 ds) A := by
  obtain ⟨n, rfl, hn, q⟩ := h
  refine ⟨rfl, ?_⟩
  have l1 : (numL n).length ≤ 4 := numL_len (by decide) hn
  have l0 : 1 ≤ (numL n).length := by
    have := numL_ne n
    cases h : numL n with
    | nil => exact absurd h this
    | cons _ _ => simp
  have hz : (numS n).length ≤ sizeLine := by rw [len_numS]; exact small_size (by omega)
  refine ⟨_, rfl, _, rfl, .inr ⟨_, rfl, hz, _, rfl, ?_⟩⟩
  refine iteB (c := true) (decide_eq_true (by rw [len_numS]; omega)) (iteT ?_)
  refine ⟨_, rfl, ?_⟩
  refine iteB (c := false) (by rw [len_numS]; show (!decide (((numL n).length : Int) ≤ 4)) = false; rw [decide_eq_true (by omega)]; rfl) (iteF ?_)
  refine ⟨_, rfl, _, rfl, hz, fun hz2 => ?_⟩
  refine lc_pure (f := fun d => match d with | .str x => some (.bl (!(Builtin.Str.occurrences (Str.ofString "0123456789") x 0 (Str.ofString "0123456789").length 1).isEmpty)) | _ => none) hz2 ?_ ?_ ?_
  · exact fun _ _ _ => trivial
  · intro p hp d hd acc Qy Qn h
    obtain ⟨c, hc, rfl⟩ := List.mem_map.mp hd
    simp only [w_gvar, w_yes, ↓reduceIte]
    exact ⟨_, rfl, _, _, rfl, rfl, h⟩
  · intro p hp
    rw [drop_upA hp]
    refine ⟨_, (numL n).map (fun c => decide (48 ≤ c ∧ c ≤ 57)), rfl, ?_, _, rfl, ?_⟩
    · show some _ = some _
      congr 1
      unfold chars
      rw [show (numS n).cps.toList = numL n from tl_num n, List.filterMap_map, List.map_map, ← List.filterMap_eq_map]
      congr 1
      funext c
      show some (D.bl (!(Builtin.Str.occurrences (Str.ofString "0123456789") ⟨#[c]⟩ 0 (Str.ofString "0123456789").length 1).isEmpty)) = some (D.bl (decide (48 ≤ c ∧ c ≤ 57)))
      rw [PySem.StrLaws.found_one, figs]
    · refine iteB (c := false) ?_ (iteF ?_)
      · rw [List.all_map]
        have : (numL n).all ((fun b => b) ∘ fun c => decide (48 ≤ c ∧ c ≤ 57)) = true := by
          rw [List.all_eq_true]
          intro c hc
          exact decide_eq_true (numL_digits n c hc)
        rw [this]
        rfl
      · obtain ⟨c, r, hcr⟩ : ∃ c r, numL n = c :: r := by
          cases h : numL n with
          | nil => exact absurd h (numL_ne n)
          | cons c r => exact ⟨c, r, rfl⟩
        have hat : atI (numS n).cps.toList 0 = some c := by
          rw [show (numS n).cps.toList = numL n from tl_num n, hcr]
          exact atI0
        refine ⟨_, rfl, 0, rfl, .inr ⟨_, c, rfl, hz, hat, rfl, rfl, _, rfl, ?_⟩⟩
        have fin : W_number_at_t1 { nx := fun _ A' => Q .non A', rt := Q } (startD 2 [.str (numS n)]) A := by
          refine ⟨_, rfl, numS n, (n : Int), rfl, int_num (by omega), by rw [len_numS]; omega, q⟩
        by_cases h0 : n = 0
        · subst h0
          refine iteB (c := true) (decide_eq_true ?_) (iteT ⟨_, rfl, rfl, rfl, _, rfl, ?_⟩)
          · have : c = 48 := by
              have h48 : numL 0 = [48] := by decide +kernel
              rw [h48] at hcr
              injection hcr with h1 h2
              exact h1.symm
            subst this
            exact congrArg D.str (show (⟨#[48]⟩ : Str) = Str.ofString "0" by decide +kernel)
          · refine iteB (c := false) ?_ (iteF fin)
            show (!decide (D.str (numS 0) = D.str (Str.ofString "0"))) = false
            rw [decide_eq_true (congrArg D.str (show numS 0 = Str.ofString "0" by decide +kernel))]
            rfl
        · obtain ⟨c', r', h1, h2⟩ := numL_head n (by omega)
          rw [hcr] at h1
          injection h1 with h3 h4
          refine iteB (c := false) (decide_eq_false fun e => ?_) (iteF (iteF fin))
          have e2 := D.str.inj e
          have e3 : tl (⟨#[c]⟩ : Str) = tl (Str.ofString "0") := by rw [e2]
          have e4 : tl (Str.ofString "0") = [48] := by decide +kernel
          rw [e4] at e3
          have e5 : [c] = [48] := e3
          injection e5 with e6
          exact h2 (h3 ▸ e6)
end TL

/-! WH: rows as texts, and back. -/
namespace TL
open PySem PySem.Spec L2
theorem whole_of {d : D} {lo hi : Int} (h : isWholeD d lo hi = true) : ∃ i, d = .int i ∧ lo ≤ i ∧ i ≤ hi := by
  unfold isWholeD at h
  split at h
  · simp at h; exact ⟨_, rfl, h⟩
  · cases h
def Word5 (s : Str) : Prop := s = sGo ∨ s = sLay ∨ s = sUp ∨ s = sStuff ∨ s = sWait
abbrev nD (n : Nat) : D := .int (n : Nat)
theorem whole_nat {d : D} {lo hi : Int} (h : isWholeD d lo hi = true) (h0 : 0 ≤ lo) (h1 : hi ≤ 1000) : ∃ n : Nat, d = nD n ∧ n ≤ 1000 := by
  obtain ⟨i, rfl, a, b⟩ := whole_of h
  exact ⟨i.toNat, by show D.int i = D.int ((i.toNat : Nat) : Int); congr 1; omega, by omega⟩
theorem row_of {d : D} (h : isRowD d = true) : ∃ (s : Str) (ns : List Nat), d = .tup (.str s :: ns.map nD) ∧ Word5 s ∧ ns.length ≤ 2 ∧ ∀ n ∈ ns, n ≤ 1000 := by
  unfold isRowD at h
  split at h
  · rename_i s
    exact ⟨s, [], rfl, .inr (.inr (.inl (of_decide_eq_true h))), by simp, fun n hn => (by cases hn)⟩
  · rename_i s a
    split at h
    · rename_i e
      obtain ⟨n, rfl, hn⟩ := whole_nat h (by decide) (by decide)
      exact ⟨s, [n], rfl, .inr (.inr (.inr (.inl e))), by simp, fun m hm => by simp at hm; rw [hm]; exact hn⟩
    · split at h
      · rename_i e
        obtain ⟨n, rfl, hn⟩ := whole_nat h (by decide) (by decide)
        exact ⟨s, [n], rfl, .inr (.inr (.inr (.inr e))), by simp, fun m hm => by simp at hm; rw [hm]; exact hn⟩
      · cases h
  · rename_i s a b
    split at h
    · rename_i e
      rw [Bool.and_eq_true] at h
      obtain ⟨n, rfl, hn⟩ := whole_nat h.1 (by decide) (by decide)
      obtain ⟨m, rfl, hm⟩ := whole_nat h.2 (by decide) (by decide)
      exact ⟨s, [n, m], rfl, e.elim .inl fun e => .inr (.inl e), by simp, fun k hk => by
        simp at hk
        rcases hk with hk | hk <;> rw [hk] <;> assumption⟩
    · cases h
  · cases h
theorem word_facts {s : Str} (h : Word5 s) : s.length ≤ 5 ∧ 1 ≤ s.length ∧ 10 ∉ tl s ∧ 32 ∉ tl s := by
  rcases h with rfl | rfl | rfl | rfl | rfl <;> decide +kernel
def strD : D → Str
  | .str x => x
  | .int i => Str.ofString (toString i)
  | _ => Str.empty
abbrev sNl : Str := Str.ofString "\n"
abbrev sBl : Str := Str.ofString " "
def rowT : D → Str
  | .tup xs => Txt.join sBl (xs.map strD)
  | _ => Str.empty
def rowsT (rs : List D) : Str := Txt.join sNl (rs.map rowT)
theorem joinL_len (S : List Nat) : ∀ ps : List (List Nat), (joinL S ps).length ≤ (ps.map List.length).sum + ps.length * S.length
  | [] => by simp [joinL]
  | [p] => by simp [joinL]
  | p :: q :: r => by
    have ih := joinL_len S (q :: r)
    show (p ++ (S ++ joinL S (q :: r))).length ≤ _
    rw [List.length_append, List.length_append, List.map_cons, List.sum_cons, List.length_cons (a := p), Nat.add_mul, Nat.one_mul]
    omega
theorem tl_tjoin (y : Str) (ps : List Str) : tl (Txt.join y ps) = joinL (tl y) (ps.map tl) := by rw [join_eq, tl_join]
theorem join_len (y : Str) (ps : List Str) : (Txt.join y ps).length ≤ (ps.map (·.length)).sum + ps.length * y.length := by
  rw [len_tl, tl_tjoin]
  have h := joinL_len (tl y) (ps.map tl)
  rw [List.map_map, List.length_map] at h
  have e : (ps.map (List.length ∘ tl)) = ps.map (·.length) := by
    apply List.map_congr_left
    intro p _
    exact (len_tl p).symm
  rw [e, ← len_tl] at h
  exact h
theorem sum_le {α : Type} (f : α → Nat) (c : Nat) : ∀ l : List α, (∀ x ∈ l, f x ≤ c) → (l.map f).sum ≤ l.length * c
  | [], _ => by simp
  | x :: l, h => by
    have ih := sum_le f c l fun y hy => h y (by simp [hy])
    have := h x (by simp)
    rw [List.map_cons, List.sum_cons, List.length_cons, Nat.add_mul, Nat.one_mul]
    omega
theorem len_nl : sNl.length = 1 := by decide +kernel
theorem len_bl : sBl.length = 1 := by decide +kernel
theorem tl_nl : tl sNl = [10] := by decide +kernel
theorem tl_bl : tl sBl = [32] := by decide +kernel
/-- the parts of a row, as texts -/
theorem row_parts {d : D} (h : isRowD d = true) : ∃ (s : Str) (ns : List Nat), d = .tup (.str s :: ns.map nD) ∧ Word5 s ∧ ns.length ≤ 2 ∧ (∀ n ∈ ns, n ≤ 1000) ∧ rowT d = Txt.join sBl (s :: ns.map numS) ∧ (∀ x ∈ s :: ns.map numS, x.length ≤ 5 ∧ 10 ∉ tl x ∧ 32 ∉ tl x) := by
  obtain ⟨s, ns, rfl, hw, hl, hn⟩ := row_of h
  refine ⟨s, ns, rfl, hw, hl, hn, ?_, fun x hx => ?_⟩
  · show Txt.join sBl ((D.str s :: ns.map nD).map strD) = _
    rw [List.map_cons, List.map_map]
    rfl
  · rcases List.mem_cons.mp hx with e | hx
    · rw [e]
      have := word_facts hw
      exact ⟨this.1, this.2.2.1, this.2.2.2⟩
    · obtain ⟨n, hn', rfl⟩ := List.mem_map.mp hx
      have := hn n hn'
      refine ⟨?_, ?_, ?_⟩
      · rw [len_numS]
        exact Nat.le_trans (numL_len (k := 4) (by decide) (by omega)) (by decide)
      · rw [tl_num]; exact numL_free (.inl (by decide))
      · rw [tl_num]; exact numL_free (.inl (by decide))
theorem rowT_facts {d : D} (h : isRowD d = true) : (rowT d).length ≤ 18 ∧ 10 ∉ tl (rowT d) ∧ 1 ≤ (rowT d).length := by
  obtain ⟨s, ns, rfl, hw, hl, hn, e, hp⟩ := row_parts h
  rw [e]
  refine ⟨?_, ?_, ?_⟩
  · have h1 := join_len sBl (s :: ns.map numS)
    have h2 := sum_le (fun x : Str => x.length) 5 (s :: ns.map numS) fun x hx => (hp x hx).1
    rw [len_bl] at h1
    rw [List.length_cons, List.length_map] at h1 h2
    omega
  · rw [tl_tjoin, tl_bl]
    have gen : ∀ ps : List (List Nat), (∀ p ∈ ps, 10 ∉ p) → 10 ∉ joinL [32] ps := by
      intro ps
      induction ps with
      | nil => intro _ h; cases h
      | cons p ps ih =>
        intro hq
        cases ps with
        | nil => exact hq p (by simp)
        | cons q r =>
          intro hm
          show False
          have hm' : 10 ∈ p ++ ([32] ++ joinL [32] (q :: r)) := hm
          rcases List.mem_append.mp hm' with h | h
          · exact hq p (by simp) h
          · rcases List.mem_append.mp h with h | h
            · simp at h
            · exact ih (fun x hx => hq x (by simp [hx])) h
    refine gen _ fun p hp' => ?_
    obtain ⟨x, hx, rfl⟩ := List.mem_map.mp hp'
    exact (hp x hx).2.1
  · rw [len_tl, tl_tjoin]
    have h1 := (word_facts hw).2.1
    rw [len_tl] at h1
    cases hns : ns.map numS with
    | nil =>
      show 1 ≤ (joinL _ [tl s]).length
      exact h1
    | cons a r =>
      show 1 ≤ (tl s ++ (tl sBl ++ joinL (tl sBl) (tl a :: r.map tl))).length
      rw [List.length_append]
      omega
/-! ### rows_text -/
def sp_rows_text : SpD := fun ds A Q => ∃ d rs, ds = [d] ∧ lw A d = some rs ∧ (∀ r ∈ rs, isRowD r = true) ∧ rs.length ≤ 100000 ∧ Q (.str (rowsT rs)) A
-- slots: 0 rows 1 row 2 part
noncomputable def W_rows_text : SW :=
  (sRet (eM "str" rJoin (eC (.str (PySem.Str.ofString "\n"))) (aCons (eLc (iSeq (eVar 0)) (gVar 1) tYesE (eM "str" rJoin (eC (.str (PySem.Str.ofString " "))) (aCons (eLc (iSeq (eVar 1)) (gVar 2) tYesE (eCall rStr1 (aCons (eVar 2) aNil)) [2]) aNil)) [1]) aNil)))
theorem lw_qv {A : SD} {d : D} {rs : List D} (h : lw A d = some rs) : qv A d = some rs := by
  cases d with
  | lst l => exact h
  | ref p => exact h
  | _ => cases h
theorem lw_up {A : SD} {d : D} {rs : List D} {p : Addr} {o : OD} (h : lw A d = some rs) (hp : A p = none) : lw (upA A p o) d = some rs := by
  cases d with
  | lst l => exact h
  | ref q =>
    have hq : q ≠ p := fun e => by
      subst e
      simp [lw, hp] at h
    show (match upA A p o q with | some (.lst ds) => some ds | _ => none) = some rs
    rw [upA_ne hq]
    exact h
  | _ => cases h
theorem wok_rows_text (ds : List D) (A : SD) (Q : QD) (h : sp_rows_text ds A Q) : ds.length = 1 ∧ W_rows_text { nx := fun _ A' => Q .non A', rt := Q } (startD 3 ds) A := by
  obtain ⟨d, rs, rfl, hd, hr, hl, q⟩ := h
  refine ⟨rfl, rfl, ?_⟩
  refine ⟨d, rfl, rs, lw_qv hd, fun hz => ?_⟩
  refine lc_pure (f := fun r => some (.str (rowT r))) hz ?_ ?_ ?_
  · exact fun p acc hp => lw_qv (lw_up hd hp)
  · intro p hp r hr' acc Qy Qn h
    obtain ⟨s, ns, rfl, hw, hnl, hn, e, hpt⟩ := row_parts (hr r hr')
    simp only [w_gvar, w_yes, ↓reduceIte]
    refine ⟨rfl, ?_⟩
    refine ⟨_, rfl, D.str s :: ns.map nD, rfl, fun hz2 => ?_⟩
    refine lc_pure (f := fun x => some (.str (strD x))) hz2 ?_ ?_ ?_
    · exact fun _ _ _ => rfl
    · intro p2 hp2 x hx acc2 Qy2 Qn2 h2
      simp only [w_gvar, w_yes, ↓reduceIte]
      refine ⟨x, rfl, ?_⟩
      rcases List.mem_cons.mp hx with e1 | hx
      · subst e1
        exact .inr ⟨s, rfl, h2⟩
      · obtain ⟨n, hn', rfl⟩ := List.mem_map.mp hx
        refine .inl ⟨(n : Int), rfl, ?_, h2⟩
        have := hn n hn'
        have h3 : ((n : Int)).natAbs = n := by simp
        rw [h3]
        exact Nat.lt_of_le_of_lt (Nat.log2_le_self n) (by omega)
    · intro p2 hp2
      rw [drop_upA hp2]
      have e2 : (D.str s :: ns.map nD).filterMap (fun x => some (D.str (strD x))) = (s :: ns.map numS).map .str := by
        rw [List.filterMap_eq_map', List.map_cons, List.map_cons, List.map_map, List.map_map]
        rfl
      rw [e2]
      refine ⟨sBl, _, s :: ns.map numS, rfl, rfl, rfl, ?_, ?_⟩
      · have h2 := sum_le (fun x : Str => x.length) 5 (s :: ns.map numS) fun x hx => (hpt x hx).1
        rw [len_bl]
        rw [List.length_cons, List.length_map] at h2 ⊢
        omega
      · rw [← e]
        exact h
  · intro p hp
    rw [drop_upA hp]
    have e2 : rs.filterMap (fun r => some (D.str (rowT r))) = (rs.map rowT).map .str := by
      rw [List.filterMap_eq_map', List.map_map]
      rfl
    rw [e2]
    refine ⟨sNl, _, rs.map rowT, rfl, rfl, rfl, ?_, q⟩
    have h2 := sum_le (fun x : Str => x.length) 18 (rs.map rowT) fun x hx => by
      obtain ⟨r, hr', rfl⟩ := List.mem_map.mp hx
      exact (rowT_facts (hr r hr')).1
    rw [len_nl]
    rw [List.length_map] at h2 ⊢
    omega
def sp__law_rows_text : SpD := sp_rows_text
-- slots: 0 _law_rows 1 _law_row_here 2 _law_part
noncomputable def W__law_rows_text : SW :=
  (sRet (eM "str" rJoin (eC (.str (PySem.Str.ofString "\n"))) (aCons (eLc (iSeq (eVar 0)) (gVar 1) tYesE (eM "str" rJoin (eC (.str (PySem.Str.ofString " "))) (aCons (eLc (iSeq (eVar 1)) (gVar 2) tYesE (eCall rStr1 (aCons (eVar 2) aNil)) [2]) aNil)) [1]) aNil)))
theorem wok__law_rows_text (ds : List D) (A : SD) (Q : QD) (h : sp__law_rows_text ds A Q) : ds.length = 1 ∧ W__law_rows_text { nx := fun _ A' => Q .non A', rt := Q } (startD 3 ds) A := wok_rows_text ds A Q h
end TL

/-! WI: rows read; rows drawn; rows asked. -/
namespace TL
open PySem PySem.Spec L2
theorem cut_one {α : Type} {x : α} {r : List α} : cutD (x :: r) (some 1) none = r := by
  unfold cutD
  rw [show HT.sIx (x :: r).length 0 (some 1) = min 1 (x :: r).length from HT.sIx_nat _ 0 1, HT.sIx_none]
  have e : min 1 (x :: r).length = 1 := by rw [List.length_cons]; omega
  rw [e]
  show (List.take ((x :: r).length - 1) r) = r
  rw [List.length_cons, Nat.add_sub_cancel]
  exact List.take_length
/-! ### rows read -/
def sp_read_rows : SpD := fun ds A Q => ∃ rs, ds = [.str (rowsT rs)] ∧ (∀ r ∈ rs, isRowD r = true) ∧ rs.length ≤ 100000 ∧ ∀ p, A p = none → Q (.ref p) (upA A p (.lst rs))
-- slots: 0 text 1 found 2 line 3 words 4 row 5 word
/-- found.append(row) -/
noncomputable def W_read_rows_t1 : SW :=
  (sExpr (eM "list" rApp (eVar 1) (aCons (eVar 4) aNil)))
/-- if not is_row(row): -/
noncomputable def W_read_rows_t2 : SW :=
  (sSeq (sIf (tNot' (tVal (eCall sp_is_row (aCons (eVar 4) aNil)))) sNever sNil)
  W_read_rows_t1)
/-- row = (words[0],) + tu -/
noncomputable def W_read_rows_t3 : SW :=
  (sSeq (sSet 4 (eOp rAdd' (eTup (aCons (eOp rIdx (eVar 3) (eC (.int 0))) aNil)) (eCall rTup (aCons (eLc (iSeq (eSl (eVar 3) (oSome (eC (.int 1))) oNone)) (gVar 5) tYesE (eCall sp_number_at (aCons (eVar 5) aNil)) [5]) aNil))))
  W_read_rows_t2)
/-- words = line.split(' ' -/
noncomputable def W_read_rows_b4 : SW :=
  (sSeq (sSet 3 (eM "str" rSplit (eVar 2) (aCons (eC (.str (PySem.Str.ofString " "))) aNil)))
  W_read_rows_t3)
/-- return found -/
noncomputable def W_read_rows_t5 : SW :=
  (sRet (eVar 1))
/-- for line in text.split -/
noncomputable def W_read_rows_t6 : SW :=
  (sSeq (sFor (iSeq (eIf (tVal (eOp rNe' (eVar 0) (eC (.str (PySem.Str.ofString ""))))) (eM "str" rSplit (eVar 0) (aCons (eC (.str (PySem.Str.ofString "\n"))) aNil)) (eLst aNil))) (gVar 2)
  W_read_rows_b4)
  W_read_rows_t5)
/-- found = [] -/
noncomputable def W_read_rows_t7 : SW :=
  (sSeq (sSet 1 (eNew aNil))
  W_read_rows_t6)
noncomputable def W_read_rows : SW :=
  (sSeq (sIf (tNot' (tVal (eIsi (eVar 0) "str"))) sNever sNil)
  W_read_rows_t7)
theorem rowsT_len {rs : List D} (h : ∀ r ∈ rs, isRowD r = true) : (rowsT rs).length ≤ 19 * rs.length := by
  have h1 := join_len sNl (rs.map rowT)
  have h2 := sum_le (fun x : Str => x.length) 18 (rs.map rowT) fun x hx => by
    obtain ⟨r, hr', rfl⟩ := List.mem_map.mp hx
    exact (rowT_facts (h r hr')).1
  rw [len_nl] at h1
  rw [List.length_map] at h1 h2
  unfold rowsT
  omega
theorem rowsT_ne {rs : List D} (h : ∀ r ∈ rs, isRowD r = true) (hne : rs ≠ []) : rowsT rs ≠ Str.ofString "" := fun e => by
  have h0 : (rowsT rs).length = 0 := by rw [e]; decide +kernel
  cases rs with
  | nil => exact hne rfl
  | cons r rs =>
    have h1 := (rowT_facts (h r (by simp))).2.2
    unfold rowsT at h0
    rw [len_tl, tl_tjoin] at h0
    rw [len_tl] at h1
    cases rs with
    | nil =>
      have : (joinL (tl sNl) (List.map tl (List.map rowT [r]))) = tl (rowT r) := rfl
      rw [this] at h0
      omega
    | cons r2 rs =>
      have : (joinL (tl sNl) (List.map tl (List.map rowT (r :: r2 :: rs)))) = tl (rowT r) ++ (tl sNl ++ joinL (tl sNl) (List.map tl (List.map rowT (r2 :: rs)))) := rfl
      rw [this, List.length_append] at h0
      omega
theorem split_rows {rs : List D} (h : ∀ r ∈ rs, isRowD r = true) (hne : rs ≠ []) : Txt.split (rowsT rs) sNl = rs.map rowT :=
  split_join tl_nl (by decide +kernel) (fun e => hne (by simpa using e)) fun x hx => by
    obtain ⟨r, hr, rfl⟩ := List.mem_map.mp hx
    exact (rowT_facts (h r hr)).2.1
section
variable {A : SD} {De : EndD}
theorem read_line {d : D} {env : ED} {acc : List D} {p : Addr} {N : ED → SD → Prop} (hl : env.length = 6) (e1 : env[1]? = some (some (.ref p))) (e2 : env[2]? = some (some (.str (rowT d)))) (hd : isRowD d = true) (ha : A p = some (.lst acc)) (hz : acc.length < sizeLine)
    (k : ∀ env', env'.length = 6 → env'[1]? = some (some (.ref p)) → N env' (upA A p (.lst (acc ++ [d])))) : W_read_rows_b4 { nx := N, rt := De.rt, bk := De.nx, ct := N } env A := by
  obtain ⟨s, ns, rfl, hw, hnl, hn, e, hpt⟩ := row_parts hd
  have hsp : Txt.split (rowT (.tup (.str s :: ns.map nD))) sBl = s :: ns.map numS := by
    rw [e]
    exact split_join tl_bl (by decide +kernel) (by simp) fun x hx => (hpt x hx).2.2
  have hlen : (rowT (.tup (.str s :: ns.map nD))).length + 2 ≤ sizeLine := by
    have h1 := (rowT_facts hd).1
    exact small_size (by omega)
  refine ⟨_, e2, rfl, ?_⟩
  refine ⟨_, _, rfl, rfl, (by decide +kernel), hlen, ?_⟩
  rw [hsp]
  have g3 : (env.set 3 (some (.lst ((s :: ns.map numS).map D.str))))[3]? = some (some (.lst ((s :: ns.map numS).map D.str))) := List.getElem?_set_self (by rw [hl]; decide)
  refine ⟨_, g3, 0, rfl, .inl ⟨_, _, rfl, (by rw [List.map_cons]; exact atI0), small_size (show 1 ≤ 100000 by decide), ?_⟩⟩
  refine ⟨_, g3, 1, rfl, ?_⟩
  refine ⟨_, rfl, ?_⟩
  rw [List.map_cons, cut_one]
  refine ⟨_, rfl, fun hz2 => ?_⟩
  refine lc_pure (f := fun x => match x with | .str z => some (.int ((NumText.digitsVal (tl z) : Nat))) | _ => none) hz2 ?_ ?_ ?_
  · exact fun _ _ _ => rfl
  · intro q hq x hx acc2 Qy Qn h
    rw [List.map_map] at hx
    obtain ⟨n, hn', rfl⟩ := List.mem_map.mp hx
    simp only [w_gvar, w_yes, ↓reduceIte]
    have := hn n hn'
    refine ⟨_, (by rw [List.getElem?_set_self (by rw [wipeE_length, List.length_set, hl]; decide)]; rfl), n, rfl, by omega, ?_⟩
    have en : NumText.digitsVal (tl (numS n)) = n := by rw [tl_num, numL_val]
    have h' : Qy (.int ((NumText.digitsVal (tl (numS n)) : Nat))) (upA A q (.lst acc2)) := h
    rw [en] at h'
    exact h'
  · intro q hq
    rw [drop_upA hq]
    have e5 : ((ns.map numS).map D.str).filterMap (fun x => match x with | .str z => some (.int ((NumText.digitsVal (tl z) : Nat))) | _ => none) = ns.map nD := by
      rw [List.map_map, List.filterMap_map, ← List.filterMap_eq_map]
      congr 1
      funext n
      show some (D.int ((NumText.digitsVal (tl (numS n)) : Nat))) = some (nD n)
      rw [tl_num, numL_val]
    rw [e5]
    refine ⟨_, _, rfl, rfl, small_size (by rw [List.length_map]; show 1 + ns.length ≤ 100000; omega), ?_⟩
    have g4 : ((env.set 3 (some (.lst ((s :: ns.map numS).map D.str)))).set 4 (some (.tup ([.str s] ++ ns.map nD))))[4]? = some (some (.tup (.str s :: ns.map nD))) := List.getElem?_set_self (by rw [List.length_set, hl]; decide)
    refine ⟨_, g4, _, rfl, ?_, _, rfl, ?_⟩
    · simp only [rf, rfs]
      refine all_rfs fun x hx => ?_
      obtain ⟨n, _, rfl⟩ := List.mem_map.mp hx
      rfl
    · rw [hd]
      refine iteF ?_
      have g1 : ((env.set 3 (some (.lst ((s :: ns.map numS).map D.str)))).set 4 (some (.tup ([.str s] ++ ns.map nD))))[1]? = some (some (.ref p)) := by
        rw [List.getElem?_set_ne (by decide), List.getElem?_set_ne (by decide)]; exact e1
      refine ⟨_, g1, (by simp [tyM, ha]), _, g4, p, acc, _, rfl, rfl, ha, hz, ?_⟩
      exact k _ (by rw [List.length_set, List.length_set]; exact hl) g1
end
theorem wok_read_rows (ds : List D) (A : SD) (Q : QD) (h : sp_read_rows ds A Q) : ds.length = 1 ∧ W_read_rows { nx := fun _ A' => Q .non A', rt := Q } (startD 6 ds) A := by
  obtain ⟨rs, rfl, hr, hl, q⟩ := h
  refine ⟨rfl, ?_⟩
  refine ⟨_, rfl, (by decide : ("str" : String) ≠ ""), true, k_ts.2.2.2.1, _, rfl, iteF ?_⟩
  refine ⟨small_size (show 0 ≤ 100000 by decide), fun p hp => ?_⟩
  have body : ∀ ls : List D, ls = rs.map (fun r => D.str (rowT r)) → ∀ A', A' = upA A p (.lst []) → forGo (fun A' => qv A' (.lst ls) = some ls) (gVar 2) W_read_rows_b4 ls { nx := W_read_rows_t5 { nx := fun _ A' => Q .non A', rt := Q }, rt := Q } (startD 6 [.str (rowsT rs)] |>.set 1 (some (.ref p))) A' := by
    intro ls e A' eA
    subst e eA
    refine for_inv (fun i env B => env.length = 6 ∧ env[1]? = some (some (.ref p)) ∧ B = upA A p (.lst (rs.take i))) (fun i d N hd hN env B hI => ⟨rfl, ?_⟩) (fun env B hI => ⟨rfl, ?_⟩) ⟨rfl, rfl, rfl⟩
    · obtain ⟨h1, h2, rfl⟩ := hI
      rw [List.getElem?_map] at hd
      cases hri : rs[i]? with
      | none => rw [hri] at hd; cases hd
      | some r =>
        rw [hri] at hd
        cases hd
        have hi : i < rs.length := (List.getElem?_eq_some_iff.mp hri).1
        refine read_line (A := upA A p (.lst (rs.take i))) (p := p) (acc := rs.take i) (d := r) (by rw [List.length_set]; exact h1) (by rw [List.getElem?_set_ne (by decide)]; exact h2) (List.getElem?_set_self (by rw [h1]; decide)) (hr r (List.mem_of_getElem? hri)) upA_same ?_ fun env' l1 l2 => ?_
        · have hs : (sizeLine : Nat) = 16777216 := sizeLine_eq
          rw [List.length_take]
          omega
        · refine hN _ _ ⟨l1, l2, ?_⟩
          rw [upA_upA, List.take_add_one, hri]
          rfl
    · obtain ⟨h1, h2, rfl⟩ := hI
      refine ⟨_, h2, ?_⟩
      rw [List.length_map, List.take_length]
      exact q p hp
  by_cases hne : rs = []
  · subst hne
    refine ⟨_, rfl, rfl, rfl, _, rfl, ?_⟩
    refine iteB (c := false) ?_ (iteF ?_)
    · show (!decide (D.str (rowsT []) = D.str (Str.ofString ""))) = false
      rw [decide_eq_true (congrArg D.str (show rowsT [] = Str.ofString "" by decide +kernel))]
      rfl
    · exact ⟨small_size (show 0 ≤ 100000 by decide), [], rfl, fun _ => body [] rfl _ rfl⟩
  · refine ⟨_, rfl, rfl, rfl, _, rfl, ?_⟩
    refine iteB (c := true) ?_ (iteT ?_)
    · show (!decide (D.str (rowsT rs) = D.str (Str.ofString ""))) = true
      rw [decide_eq_false fun e => rowsT_ne hr hne (D.str.inj e)]
      rfl
    · have hlen := rowsT_len hr
      refine ⟨_, rfl, rfl, rowsT rs, sNl, rfl, rfl, (by decide +kernel), small_size (by omega) |> fun h => ?_, ?_⟩
      · have hs : (sizeLine : Nat) = 16777216 := sizeLine_eq
        omega
      · rw [split_rows hr hne]
        have e : (rs.map rowT).map D.str = rs.map (fun r => D.str (rowT r)) := by rw [List.map_map]; rfl
        rw [e]
        exact ⟨_, rfl, fun _ => body _ rfl _ rfl⟩
/-! ### rows drawn -/
def sp__law_row : SpD := fun ds A Q => ∃ q, ds = [.ref q] ∧ WellAt A q ∧ ∀ d A', rf d = true → (∀ xs, d = .tup xs → xs.length ≤ 3) → WellAt A' q → Oth q A A' → Q d A'
-- slots: 0 _law_well_here 1 _law_way 2 _law_some
/-- return _law_some[_law_ -/
noncomputable def W__law_row_t1 : SW :=
  (sRet (eOp rIdx (eVar 2) (eCall sp__law_take (aCons (eVar 0) (aCons (eC (.int 14)) aNil)))))
/-- _law_some = _law_some  -/
noncomputable def W__law_row_t2 : SW :=
  (sSeq (sSet 2 (eOp rAddF (eVar 2) (eLst (aCons (eLst (aCons (eC (.str (PySem.Str.ofString "up"))) aNil)) (aCons (eTup (aCons (eC (.str (PySem.Str.ofString "down"))) aNil)) (aCons (eC (.int 7)) (aCons (eTup aNil) (aCons (eTup (aCons (eC (.str (PySem.Str.ofString "go"))) (aCons (eC (.int 0)) (aCons (eC (.bl true)) aNil)))) (aCons (eTup (aCons (eC (.str (PySem.Str.ofString "lay"))) (aCons (eC (.int 0)) aNil))) (aCons (eC .non) (aCons (eTup (aCons (eC (.str (PySem.Str.ofString "wait"))) (aCons (eC (.int 1000)) aNil))) aNil)))))))))))
  W__law_row_t1)
/-- _law_some = [('go', 10 -/
noncomputable def W__law_row_t3 : SW :=
  (sSeq (sSet 2 (eLst (aCons (eTup (aCons (eC (.str (PySem.Str.ofString "go"))) (aCons (eC (.int 10)) (aCons (eC (.int 0)) aNil)))) (aCons (eTup (aCons (eC (.str (PySem.Str.ofString "lay"))) (aCons (eC (.int 0)) (aCons (eNeg (eC (.int 1))) aNil)))) (aCons (eTup (aCons (eC (.str (PySem.Str.ofString "stuff"))) (aCons (eC (.int 2)) aNil))) (aCons (eTup (aCons (eC (.str (PySem.Str.ofString "wait"))) (aCons (eC (.int 0)) aNil))) (aCons (eTup (aCons (eC (.str (PySem.Str.ofString "wait"))) (aCons (eC (.int 1001)) aNil))) (aCons (eTup (aCons (eC (.str (PySem.Str.ofString "up"))) (aCons (eC (.int 1)) aNil))) aNil))))))))
  W__law_row_t2)
/-- if _law_way == 10: -/
noncomputable def W__law_row_t4 : SW :=
  (sSeq (sIf (tVal (eOp rEq' (eVar 1) (eC (.int 10)))) (sRet (eTup (aCons (eC (.str (PySem.Str.ofString "wait"))) (aCons (eOp rAdd' (eC (.int 1)) (eCall sp__law_take (aCons (eVar 0) (aCons (eC (.int 30)) aNil)))) aNil)))) sNil)
  W__law_row_t3)
/-- if _law_way == 9: -/
noncomputable def W__law_row_t5 : SW :=
  (sSeq (sIf (tVal (eOp rEq' (eVar 1) (eC (.int 9)))) (sRet (eTup (aCons (eC (.str (PySem.Str.ofString "stuff"))) (aCons (eCall sp__law_take (aCons (eVar 0) (aCons (eC (.int 2)) aNil))) aNil)))) sNil)
  W__law_row_t4)
/-- if _law_way == 8: -/
noncomputable def W__law_row_t6 : SW :=
  (sSeq (sIf (tVal (eOp rEq' (eVar 1) (eC (.int 8)))) (sRet (eTup (aCons (eC (.str (PySem.Str.ofString "up"))) aNil))) sNil)
  W__law_row_t5)
/-- if _law_way < 8: -/
noncomputable def W__law_row_t7 : SW :=
  (sSeq (sIf (tVal (eOp rLt' (eVar 1) (eC (.int 8)))) (sRet (eTup (aCons (eC (.str (PySem.Str.ofString "lay"))) (aCons (eCall sp__law_take (aCons (eVar 0) (aCons (eC (.int 3)) aNil))) (aCons (eCall sp__law_take (aCons (eVar 0) (aCons (eC (.int 5)) aNil))) aNil))))) sNil)
  W__law_row_t6)
/-- if _law_way < 3: -/
noncomputable def W__law_row_t8 : SW :=
  (sSeq (sIf (tVal (eOp rLt' (eVar 1) (eC (.int 3)))) (sRet (eTup (aCons (eC (.str (PySem.Str.ofString "go"))) (aCons (eCall sp__law_take (aCons (eVar 0) (aCons (eC (.int 3)) aNil))) (aCons (eCall sp__law_take (aCons (eVar 0) (aCons (eC (.int 5)) aNil))) aNil))))) sNil)
  W__law_row_t7)
noncomputable def W__law_row : SW :=
  (sSeq (sSet 1 (eCall sp__law_take (aCons (eVar 0) (aCons (eC (.int 12)) aNil))))
  W__law_row_t8)
theorem wok__law_row (ds : List D) (A : SD) (Q : QD) (h : sp__law_row ds A Q) : ds.length = 1 ∧ W__law_row { nx := fun _ A' => Q .non A', rt := Q } (startD 3 ds) A := by
  obtain ⟨q, rfl, hw, k⟩ := h
  refine ⟨rfl, ?_⟩
  have s1 : (1 : Nat) ≤ sizeLine := small_size (by decide)
  have s2 : (2 : Nat) ≤ sizeLine := small_size (by decide)
  have s3 : (3 : Nat) ≤ sizeLine := small_size (by decide)
  refine ⟨_, rfl, q, 12, rfl, hw, by decide, by decide, fun m B0 m0 m1 w0 o0 => ?_⟩
  refine ⟨_, rfl, _, rfl, ?_⟩
  by_cases h3 : m < 3
  · refine iteB (c := true) (decide_eq_true h3) (iteT ?_)
    refine ⟨_, rfl, q, 3, rfl, w0, by decide, by decide, fun y B1 _ _ w1 o1 => ?_⟩
    refine ⟨_, rfl, q, 5, rfl, w1, by decide, by decide, fun x B2 _ _ w2 o2 => ?_⟩
    exact ⟨s3, k _ _ rfl (fun xs e => by cases e; simp) w2 ((o0.trans o1).trans o2)⟩
  refine iteB (c := false) (decide_eq_false h3) (iteF ?_)
  refine ⟨_, rfl, _, rfl, ?_⟩
  by_cases h8 : m < 8
  · refine iteB (c := true) (decide_eq_true h8) (iteT ?_)
    refine ⟨_, rfl, q, 3, rfl, w0, by decide, by decide, fun y B1 _ _ w1 o1 => ?_⟩
    refine ⟨_, rfl, q, 5, rfl, w1, by decide, by decide, fun x B2 _ _ w2 o2 => ?_⟩
    exact ⟨s3, k _ _ rfl (fun xs e => by cases e; simp) w2 ((o0.trans o1).trans o2)⟩
  refine iteB (c := false) (decide_eq_false h8) (iteF ?_)
  refine ⟨_, rfl, rfl, rfl, _, rfl, ?_⟩
  by_cases h8' : m = 8
  · refine iteB (c := true) (decide_eq_true (congrArg D.int h8')) (iteT ?_)
    exact ⟨s1, k _ _ rfl (fun xs e => by cases e; simp) w0 o0⟩
  refine iteB (c := false) (decide_eq_false fun e => h8' (D.int.inj e)) (iteF ?_)
  refine ⟨_, rfl, rfl, rfl, _, rfl, ?_⟩
  by_cases h9 : m = 9
  · refine iteB (c := true) (decide_eq_true (congrArg D.int h9)) (iteT ?_)
    refine ⟨_, rfl, q, 2, rfl, w0, by decide, by decide, fun y B1 _ _ w1 o1 => ?_⟩
    exact ⟨s2, k _ _ rfl (fun xs e => by cases e; simp) w1 (o0.trans o1)⟩
  refine iteB (c := false) (decide_eq_false fun e => h9 (D.int.inj e)) (iteF ?_)
  refine ⟨_, rfl, rfl, rfl, _, rfl, ?_⟩
  by_cases h10 : m = 10
  · refine iteB (c := true) (decide_eq_true (congrArg D.int h10)) (iteT ?_)
    refine ⟨_, rfl, q, 30, rfl, w0, by decide, by decide, fun y B1 _ _ w1 o1 => ?_⟩
    exact ⟨s2, k _ _ rfl (fun xs e => by cases e; simp) w1 (o0.trans o1)⟩
  refine iteB (c := false) (decide_eq_false fun e => h10 (D.int.inj e)) (iteF ?_)
  refine ⟨s3, _, rfl, ?_⟩
  refine ⟨s3, s2, s2, s2, s2, small_size (show 6 ≤ 100000 by decide), ?_⟩
  refine ⟨_, rfl, s1, s1, small_size (show 0 ≤ 100000 by decide), s3, s2, s2, small_size (show 8 ≤ 100000 by decide), _, _, rfl, rfl, small_size (show 14 ≤ 100000 by decide), ?_⟩
  refine ⟨_, rfl, _, rfl, q, 14, rfl, w0, by decide, by decide, fun i B1 i0 i1 w1 o1 => ?_⟩
  obtain ⟨n, rfl⟩ : ∃ n : Nat, i = n := ⟨i.toNat, by omega⟩
  have hn : n < 14 := by omega
  have fin : ∀ (xs : List D) (hx : xs.length = 14), (∀ x ∈ xs, rf x = true ∧ ∀ ys, x = .tup ys → ys.length ≤ 3) → ∀ d, atI xs (n : Int) = some d → Q d B1 := fun xs hx ha d hd => by
    rw [atI_nat (by omega)] at hd
    cases hd
    exact k _ _ (ha _ (List.getElem_mem _)).1 (ha _ (List.getElem_mem _)).2 w1 (o0.trans o1)
  refine ⟨(n : Int), rfl, .inl ⟨_, _, rfl, atI_nat (by simpa using hn), ?_⟩⟩
  refine fin _ rfl ?_ _ (atI_nat (by simpa using hn))
  intro x hx
  simp only [List.cons_append, List.nil_append, List.mem_cons, List.not_mem_nil, or_false] at hx
  rcases hx with h | h | h | h | h | h | h | h | h | h | h | h | h | h <;> (rw [h]; exact ⟨rfl, fun ys e => by first | (cases e; simp) | cases e⟩)
end TL

/-! WJ: is it a row. -/
namespace TL
open PySem PySem.Spec L2
abbrev prD (p : Int × Int) : D := .tup [.int p.1, .int p.2]
abbrev prsD (l : List (Int × Int)) : D := .lst (l.map prD)
/-- the bounds of a row's numbers -/
def bnds (s : Str) : Option (List (Int × Int)) := if s = sGo then some [(0, 9), (0, 9)] else if s = sLay then some [(0, 9), (0, 9)] else if s = sUp then some [] else if s = sStuff then some [(0, 1)] else if s = sWait then some [(1, 1000)] else none
def inB (r : List D) (l : List (Int × Int)) : Bool := (r.zip l).all fun x => isWholeD x.1 x.2.1 x.2.2
theorem row_bnds (s : Str) (r : List D) : isRowD (.tup (.str s :: r)) = match bnds s with
    | none => false
    | some l => decide (r.length = l.length) && inB r l := by
  unfold bnds
  by_cases h1 : s = sGo
  · rw [if_pos h1]
    match r with
    | [] => simp [isRowD, h1, str_ne]
    | [_] => simp [isRowD, h1, str_ne]
    | [a, b] => simp [isRowD, h1, inB]
    | _ :: _ :: _ :: _ => simp [isRowD]
  rw [if_neg h1]
  by_cases h2 : s = sLay
  · rw [if_pos h2]
    match r with
    | [] => simp [isRowD, h2, str_ne]
    | [_] => simp [isRowD, h2, str_ne]
    | [a, b] => simp [isRowD, h2, inB]
    | _ :: _ :: _ :: _ => simp [isRowD]
  rw [if_neg h2]
  by_cases h3 : s = sUp
  · rw [if_pos h3]
    match r with
    | [] => simp [isRowD, h3, inB]
    | [_] => simp [isRowD, h3, str_ne]
    | [a, b] => simp [isRowD, h1, h2]
    | _ :: _ :: _ :: _ => simp [isRowD]
  rw [if_neg h3]
  by_cases h4 : s = sStuff
  · rw [if_pos h4]
    match r with
    | [] => simp [isRowD, h3]
    | [_] => simp [isRowD, h4, inB]
    | [a, b] => simp [isRowD, h1, h2]
    | _ :: _ :: _ :: _ => simp [isRowD]
  rw [if_neg h4]
  by_cases h5 : s = sWait
  · rw [if_pos h5]
    match r with
    | [] => simp [isRowD, h3]
    | [_] => simp [isRowD, h5, inB, str_ne, Ne.symm str_ne.2.2.2.2.2.2.2.2.2]
    | [a, b] => simp [isRowD, h1, h2]
    | _ :: _ :: _ :: _ => simp [isRowD]
  rw [if_neg h5]
  match r with
  | [] => simp [isRowD, h3]
  | [_] => simp [isRowD, h4, h5]
  | [a, b] => simp [isRowD, h1, h2]
  | _ :: _ :: _ :: _ => simp [isRowD]
def sp__law_is_row : SpD := fun ds A Q => ∃ d, ds = [d] ∧ rf d = true ∧ (∀ xs, d = .tup xs → xs.length ≤ 100000) ∧ Q (.bl (isRowD d)) A
-- slots: 0 _law_row_here 1 _law_bounds_of 2 _law_some 3 _law_part 4 _law_low 5 _law_high
/-- if not _law_is_int(_la -/
noncomputable def W__law_is_row_b1 : SW :=
  (sIf (tNot' (tVal (eCall sp__law_is_int (aCons (eVar 3) (aCons (eVar 4) (aCons (eVar 5) aNil)))))) (sRet (eC (.bl false))) sNil)
/-- return True -/
noncomputable def W__law_is_row_t2 : SW :=
  (sRet (eC (.bl true)))
/-- for _law_part, (_law_l -/
noncomputable def W__law_is_row_t3 : SW :=
  (sSeq (sFor (iZip' (aCons (eSl (eVar 0) (oSome (eC (.int 1))) oNone) (aCons (eVar 2) aNil))) (gTup' 2 (gsCons (gVar 3) (gsCons (gTup' 2 (gsCons (gVar 4) (gsCons (gVar 5) gsNil))) gsNil)))
  W__law_is_row_b1)
  W__law_is_row_t2)
/-- if _law_some is None o -/
noncomputable def W__law_is_row_t4 : SW :=
  (sSeq (sIf (tOr' (tVal (eOp rIs' (eVar 2) (eC .non))) (tVal (eOp rNe' (eCall rLen (aCons (eVar 0) aNil)) (eOp rAdd' (eC (.int 1)) (eCall rLen (aCons (eVar 2) aNil)))))) (sRet (eC (.bl false))) sNil)
  W__law_is_row_t3)
/-- _law_some = _law_bound -/
noncomputable def W__law_is_row_t5 : SW :=
  (sSeq (sSet 2 (eM "dict" rGet (eVar 1) (aCons (eOp rIdx (eVar 0) (eC (.int 0))) (aCons (eC .non) aNil))))
  W__law_is_row_t4)
/-- _law_bounds_of.update( -/
noncomputable def W__law_is_row_t6 : SW :=
  (sSeq (sExpr (eM "dict" rUpd (eVar 1) (aCons (eDisp (pCons (eC (.str (PySem.Str.ofString "stuff"))) (eLst (aCons (eTup (aCons (eC (.int 0)) (aCons (eC (.int 1)) aNil))) aNil)) (pCons (eC (.str (PySem.Str.ofString "wait"))) (eLst (aCons (eTup (aCons (eC (.int 1)) (aCons (eC (.int 1000)) aNil))) aNil)) pNil))) aNil)))
  W__law_is_row_t5)
/-- _law_bounds_of = {'go' -/
noncomputable def W__law_is_row_t7 : SW :=
  (sSeq (sSet 1 (eDisp (pCons (eC (.str (PySem.Str.ofString "go"))) (eLst (aCons (eTup (aCons (eC (.int 0)) (aCons (eC (.int 9)) aNil))) (aCons (eTup (aCons (eC (.int 0)) (aCons (eC (.int 9)) aNil))) aNil))) (pCons (eC (.str (PySem.Str.ofString "lay"))) (eLst (aCons (eTup (aCons (eC (.int 0)) (aCons (eC (.int 9)) aNil))) (aCons (eTup (aCons (eC (.int 0)) (aCons (eC (.int 9)) aNil))) aNil))) (pCons (eC (.str (PySem.Str.ofString "up"))) (eLst aNil) pNil)))))
  W__law_is_row_t6)
noncomputable def W__law_is_row : SW :=
  (sSeq (sIf (tOr' (tNot' (tVal (eIsi (eVar 0) "tuple"))) (tOr' (tVal (eOp rEq' (eCall rLen (aCons (eVar 0) aNil)) (eC (.int 0)))) (tNot' (tVal (eIsi (eOp rIdx (eVar 0) (eC (.int 0))) "str"))))) (sRet (eC (.bl false))) sNil)
  W__law_is_row_t7)
def tabB : List (Key × D) := [(.inr sGo, prsD [(0, 9), (0, 9)]), (.inr sLay, prsD [(0, 9), (0, 9)]), (.inr sUp, prsD []), (.inr sStuff, prsD [(0, 1)]), (.inr sWait, prsD [(1, 1000)])]
theorem tabB_val (s : Str) : valD tabB (.inr s) = (bnds s).map prsD := by
  have e : ∀ a : Str, (decide ((Sum.inr a : Key) = Sum.inr s)) = decide (s = a) := fun a => decide_eq_decide.mpr ⟨fun h => (Sum.inr.inj h).symm, fun h => by rw [h]⟩
  unfold valD tabB bnds
  simp only [List.find?_cons, List.find?_nil, e]
  by_cases h1 : s = sGo
  · rw [if_pos h1, decide_eq_true h1]; rfl
  rw [if_neg h1, decide_eq_false h1]
  by_cases h2 : s = sLay
  · rw [if_pos h2, decide_eq_true h2]; rfl
  rw [if_neg h2, decide_eq_false h2]
  by_cases h3 : s = sUp
  · rw [if_pos h3, decide_eq_true h3]; rfl
  rw [if_neg h3, decide_eq_false h3]
  by_cases h4 : s = sStuff
  · rw [if_pos h4, decide_eq_true h4]; rfl
  rw [if_neg h4, decide_eq_false h4]
  by_cases h5 : s = sWait
  · rw [if_pos h5, decide_eq_true h5]; rfl
  rw [if_neg h5, decide_eq_false h5]
  rfl
theorem tab1 : mergeD [] [((.inr sGo : Key), prsD [(0, 9), (0, 9)]), (.inr sLay, prsD [(0, 9), (0, 9)]), (.inr sUp, prsD [])] = [(.inr sGo, prsD [(0, 9), (0, 9)]), (.inr sLay, prsD [(0, 9), (0, 9)]), (.inr sUp, prsD [])] := by kernel_rfl
theorem tab2 : mergeD [] [((.inr sStuff : Key), prsD [(0, 1)]), (.inr sWait, prsD [(1, 1000)])] = [(.inr sStuff, prsD [(0, 1)]), (.inr sWait, prsD [(1, 1000)])] := by kernel_rfl
theorem tab3 : mergeD [((.inr sGo : Key), prsD [(0, 9), (0, 9)]), (.inr sLay, prsD [(0, 9), (0, 9)]), (.inr sUp, prsD [])] [((.inr sStuff : Key), prsD [(0, 1)]), (.inr sWait, prsD [(1, 1000)])] = tabB := by kernel_rfl
section
variable {A : SD} {De : EndD}
theorem lrow_t3 {s : Str} {r : List D} {l : List (Int × Int)} {p : Addr} (hr : rfs r = true) (hz : r.length ≤ 100000) (hl : r.length = l.length) (q : De.rt (.bl (inB r l)) A) :
    W__law_is_row_t3 De [some (.tup (.str s :: r)), some (.ref p), some (prsD l), none, none, none] A := by
  refine ⟨_, rfl, 1, rfl, ?_⟩
  simp only [w_on, rSl, cut_one]
  refine ⟨_, rfl, _, _, r, l.map prD, rfl, rfl, rfl, small_size hz, fun hz2 => ?_⟩
  have hall := rfs_all hr
  refine for_inv (fun i env B => env.length = 6 ∧ B = A ∧ inB (r.take i) (l.take i) = true) (fun i d N hd hN env B hI => ⟨⟨rfl, rfl⟩, ?_⟩) (fun env B hI => ⟨⟨rfl, rfl⟩, ?_⟩) ⟨rfl, rfl, rfl⟩
  · obtain ⟨h1, rfl, h3⟩ := hI
    unfold zipD at hd
    rw [List.getElem?_map] at hd
    cases hx : (r.zip (l.map prD))[i]? with
    | none => rw [hx] at hd; cases hd
    | some xy =>
      rw [hx] at hd
      cases hd
      obtain ⟨x, y⟩ := xy
      obtain ⟨ex, ey⟩ := List.getElem?_zip_eq_some.mp hx
      rw [List.getElem?_map] at ey
      cases hl' : l[i]? with
      | none => rw [hl'] at ey; cases ey
      | some b =>
        rw [hl'] at ey
        cases ey
        refine ⟨_, rfl, rfl, _, _, rfl, _, _, rfl, ⟨_, rfl, rfl, _, _, rfl, _, _, rfl, rfl, rfl, ?_⟩⟩
        have g3 : (((env.set 3 (some x)).set 4 (some (.int b.1))).set 5 (some (.int b.2)))[3]? = some (some x) := by
          rw [List.getElem?_set_ne (by decide), List.getElem?_set_ne (by decide), List.getElem?_set_self (by rw [h1]; decide)]
        have g4 : (((env.set 3 (some x)).set 4 (some (.int b.1))).set 5 (some (.int b.2)))[4]? = some (some (.int b.1)) := by
          rw [List.getElem?_set_ne (by decide), List.getElem?_set_self (by rw [List.length_set, h1]; decide)]
        have g5 : (((env.set 3 (some x)).set 4 (some (.int b.1))).set 5 (some (.int b.2)))[5]? = some (some (.int b.2)) := by
          rw [List.getElem?_set_self (by rw [List.length_set, List.length_set, h1]; decide)]
        refine ⟨_, g3, _, g4, _, g5, x, b.1, b.2, rfl, hall x (List.mem_of_getElem? ex), _, rfl, ?_⟩
        cases e : isWholeD x b.1 b.2 with
        | true =>
          refine iteF ?_
          refine hN _ _ ⟨by rw [List.length_set, List.length_set, List.length_set]; exact h1, rfl, ?_⟩
          have hi : i < r.length := (List.getElem?_eq_some_iff.mp ex).1
          rw [List.take_add_one, ex, List.take_add_one, hl']
          unfold inB at h3 ⊢
          rw [Option.toList_some, Option.toList_some, List.zip_append (by rw [List.length_take, List.length_take, hl]), List.all_append, h3]
          simpa using e
        | false =>
          refine iteT ?_
          have : inB r l = false := by
            unfold inB
            rw [← Bool.not_eq_true, List.all_eq_true]
            intro hh
            have hm : (x, b) ∈ r.zip l := List.mem_of_getElem? (List.getElem?_zip_eq_some.mpr ⟨ex, hl'⟩)
            have := hh (x, b) hm
            rw [e] at this
            cases this
          rw [this] at q
          exact q
  · obtain ⟨h1, rfl, h3⟩ := hI
    have hlen : (zipD r (l.map prD)).length = r.length := by
      unfold zipD
      rw [List.length_map, List.length_zip, List.length_map, ← hl, Nat.min_self]
    rw [hlen, List.take_length, hl, List.take_length] at h3
    rw [h3] at q
    exact q
theorem lrow_t7 {s : Str} {r : List D} (hr : rfs r = true) (hz : r.length ≤ 10000000) (hz2 : r.length + 1 ≤ 100000) (q : ∀ B : SD, (∀ a, A a ≠ none → B a = A a) → De.rt (.bl (isRowD (.tup (.str s :: r)))) B) :
    W__law_is_row_t7 De [some (.tup (.str s :: r)), none, none, none, none, none] A := by
  have s0 : (0 : Nat) ≤ sizeLine := small_size (by decide)
  have s1 : (1 : Nat) ≤ sizeLine := small_size (by decide)
  have s2 : (2 : Nat) ≤ sizeLine := small_size (by decide)
  intro p hp
  refine ⟨s2, s2, s2, s2, s2, s2, s0, upA_same, [(.inr sGo, prsD [(0, 9), (0, 9)]), (.inr sLay, prsD [(0, 9), (0, 9)]), (.inr sUp, prsD [])], rfl, rfl, by decide, ?_⟩
  rw [tab1, upA_upA]
  refine ⟨_, rfl, (by simp [tyM, upA_same]), fun p2 hp2 => ?_⟩
  have hne : p ≠ p2 := fun e => by rw [e, upA_same] at hp2; cases hp2
  refine ⟨s2, s1, s2, s1, upA_same, [(.inr sStuff, prsD [(0, 1)]), (.inr sWait, prsD [(1, 1000)])], rfl, rfl, by decide, ?_⟩
  rw [tab2, upA_upA]
  refine ⟨p, p2, [(.inr sGo, prsD [(0, 9), (0, 9)]), (.inr sLay, prsD [(0, 9), (0, 9)]), (.inr sUp, prsD [])], [(.inr sStuff, prsD [(0, 1)]), (.inr sWait, prsD [(1, 1000)])], rfl, rfl, hne, ?_, ?_, small_size (show 5 ≤ 100000 by decide), ?_⟩
  · rw [upA_ne hne]; exact upA_same
  · simp [dkv, upA_same]
  rw [tab3]
  generalize hB : upA (upA (upA A p _) p2 _) p (.dk tabB) = B
  have hBp : B p = some (.dk tabB) := by rw [← hB]; exact upA_same
  have hfr : ∀ a, A a ≠ none → B a = A a := fun a ha => by
    have h1 : a ≠ p := fun e => ha (by rw [e]; exact hp)
    have h2 : a ≠ p2 := fun e => ha (by
      rw [e]
      rw [upA_ne (fun e2 => hne e2.symm)] at hp2
      exact hp2)
    rw [← hB, upA_ne h1, upA_ne h2, upA_ne h1]
  refine ⟨_, rfl, (by simp [tyM, hBp]), _, rfl, 0, rfl, .inl ⟨_, _, rfl, atI0, p, tabB, .str s, .inr s, rfl, (by simp [dkv, hBp]), rfl, .inr ⟨_, rfl, ?_⟩⟩⟩
  rw [tabB_val]
  have qq := q B hfr
  rw [row_bnds] at qq
  cases hb : bnds s with
  | none =>
    rw [hb] at qq
    refine ⟨_, rfl, _, rfl, ?_⟩
    refine iteB (c := true) (decide_eq_true rfl) (iteT (iteT qq))
  | some l =>
    rw [hb] at qq
    have qq : De.rt (.bl (decide (r.length = l.length) && inB r l)) B := qq
    refine ⟨_, rfl, _, rfl, ?_⟩
    refine iteB (c := false) (decide_eq_false fun e => by cases e) (iteF ?_)
    refine ⟨_, rfl, _, rfl, .inl ⟨_, rfl, _, rfl, _, rfl, .inl ⟨_, rfl, rfl, rfl, _, rfl, ?_⟩⟩⟩
    by_cases hl : r.length = l.length
    · refine iteB (c := false) ?_ (iteF ?_)
      · show (!decide (D.int ((List.length (D.str s :: r) : Nat) : Int) = D.int (1 + ((List.length (l.map prD) : Nat) : Int)))) = false
        rw [decide_eq_true (by rw [List.length_cons, List.length_map, hl]; congr 1; omega)]
        rfl
      · rw [decide_eq_true hl, Bool.true_and] at qq
        exact lrow_t3 hr (by omega) hl qq
    · refine iteB (c := true) ?_ (iteT ?_)
      · show (!decide (D.int ((List.length (D.str s :: r) : Nat) : Int) = D.int (1 + ((List.length (l.map prD) : Nat) : Int)))) = true
        rw [decide_eq_false fun e => hl (by
          have := D.int.inj e
          rw [List.length_cons, List.length_map] at this
          omega)]
        rfl
      · rw [decide_eq_false hl, Bool.false_and] at qq
        exact qq
end
theorem wok__law_is_row (ds : List D) (A : SD) (Q : QD) (h : sp__law_is_row ds A Q) : ds.length = 1 ∧ W__law_is_row { nx := fun _ A' => subQ Q .non A', rt := subQ Q } (startD 6 ds) A := by
  obtain ⟨d, rfl, hr, hz, q⟩ := h
  refine ⟨rfl, ?_⟩
  refine ⟨d, rfl, ty_rf hr, _, kb_tup hr, _, rfl, ?_⟩
  cases d with
  | tup xs =>
    refine iteF ⟨_, rfl, _, rfl, .inl ⟨xs, rfl, rfl, rfl, _, rfl, ?_⟩⟩
    cases xs with
    | nil =>
      refine iteB (c := true) (decide_eq_true rfl) (iteT (iteT ?_))
      exact subQ.same q
    | cons x r =>
      refine iteB (c := false) (decide_eq_false fun e => by have := D.int.inj e; rw [List.length_cons] at this; omega) (iteF ?_)
      simp only [rf, rfs, Bool.and_eq_true] at hr
      refine ⟨_, rfl, 0, rfl, .inl ⟨_, _, rfl, atI0, ty_rf hr.1, _, kb_str hr.1, _, rfl, ?_⟩⟩
      have hz' := hz _ rfl
      rw [List.length_cons] at hz'
      cases x with
      | str s => exact iteF (lrow_t7 hr.2 (by omega) hz' fun B hB => ⟨A, fun a o h => by rw [hB a (by rw [h]; exact Option.some_ne_none _)]; exact h, q⟩)
      | _ =>
        refine iteT ?_
        rw [not_row_head (fun s h => by cases h)] at q
        exact subQ.same q
  | _ => exact iteT (iteT (subQ.same q))
end TL

/-! WK: bodies drawn. -/
namespace TL
open PySem PySem.Spec L2
/-! ### the signs -/
def sigN (cs ps : List Cell) (c : Cell) : Nat := if c ∈ cs then 35 else if c ∈ ps then 43 else 46
def sigS (n : Nat) : Str := ⟨#[n]⟩
theorem s_body : Str.ofString "#" = sigS 35 := by decide +kernel
theorem s_prop : Str.ofString "+" = sigS 43 := by decide +kernel
theorem s_none : Str.ofString "." = sigS 46 := by decide +kernel
abbrev sDash : Str := Str.ofString "---"
abbrev sEm : Str := Str.ofString ""
def lineS (cs ps : List Cell) (z y : Nat) : Str := Txt.join sEm ((List.range 10).map fun x : Nat => sigS (sigN cs ps ((z : Int), (y : Int), (x : Int))))
def layerL (cs ps : List Cell) (z : Nat) : List Str := (if 0 < z then [sDash] else []) ++ (List.range 10).map (lineS cs ps z)
def drawL (cs ps : List Cell) (m : Nat) : List Str := (List.range m).flatMap (layerL cs ps)
def drawT (cs ps : List Cell) (m : Nat) : Str := Txt.join sNl (drawL cs ps (m + 1))
/-- the top layer -/
def IsTop (l : List Cell) (m : Nat) : Prop := (∃ c ∈ l, c.1 = (m : Int)) ∧ ∀ c ∈ l, 0 ≤ c.1 ∧ c.1 ≤ (m : Int)
theorem mem_cD {c : Cell} {cs : List Cell} : decide (cD c ∈ cs.map cD) = decide (c ∈ cs) := by
  apply decide_eq_decide.mpr
  constructor
  · intro h
    obtain ⟨d, hd, e⟩ := List.mem_map.mp h
    rw [cD_inj e] at hd
    exact hd
  · exact fun h => List.mem_map_of_mem h
theorem ok_cDs {n : Nat} {cs : List Cell} : (cs.map cD).all (ok (n + 1)) = true := by
  rw [List.all_eq_true]
  intro d hd
  obtain ⟨c, _, rfl⟩ := List.mem_map.mp hd
  simp [cD]
def sp_sign_at : SpD := fun ds A Q => ∃ cs ps c, ds = [.tup (cs.map cD), .tup (ps.map cD), cD c] ∧ Q (.str (sigS (sigN cs ps c))) A
-- slots: 0 body 1 props 2 cell
/-- return '+' if cell in  -/
noncomputable def W_sign_at_t1 : SW :=
  (sRet (eIf (tVal (eOp rIn' (eVar 2) (eVar 1))) (eC (.str (PySem.Str.ofString "+"))) (eC (.str (PySem.Str.ofString ".")))))
noncomputable def W_sign_at : SW :=
  (sSeq (sIf (tVal (eOp rIn' (eVar 2) (eVar 0))) (sRet (eC (.str (PySem.Str.ofString "#")))) sNil)
  W_sign_at_t1)
theorem wok_sign_at (ds : List D) (A : SD) (Q : QD) (h : sp_sign_at ds A Q) : ds.length = 3 ∧ W_sign_at { nx := fun _ A' => Q .non A', rt := Q } (startD 3 ds) A := by
  obtain ⟨cs, ps, c, rfl, q⟩ := h
  refine ⟨rfl, ?_⟩
  refine ⟨_, rfl, _, rfl, _, rfl, rfl, ok_cDs, _, rfl, ?_⟩
  by_cases h1 : c ∈ cs
  · refine iteB (c := true) (mem_cD.trans (decide_eq_true h1)) (iteT ?_)
    show Q (.str (Str.ofString "#")) A
    rw [s_body]
    simpa [sigN, h1] using q
  · refine iteB (c := false) (mem_cD.trans (decide_eq_false h1)) (iteF ?_)
    refine ⟨_, rfl, _, rfl, _, rfl, rfl, ok_cDs, _, rfl, ?_⟩
    by_cases h2 : c ∈ ps
    · refine iteB (c := true) (mem_cD.trans (decide_eq_true h2)) (iteT ?_)
      show Q (.str (Str.ofString "+")) A
      rw [s_prop]
      simpa [sigN, h1, h2] using q
    · refine iteB (c := false) (mem_cD.trans (decide_eq_false h2)) (iteF ?_)
      show Q (.str (Str.ofString ".")) A
      rw [s_none]
      simpa [sigN, h1, h2] using q
/-- all that stood stands -/
def Fr0 (A B : SD) : Prop := ∀ a, A a ≠ none → B a = A a
theorem Fr0.refl (A : SD) : Fr0 A A := fun _ _ => rfl
theorem Fr0.up {A B : SD} {p : Addr} {o : OD} (h : Fr0 A B) (hp : A p = none) : Fr0 A (upA B p o) := fun a ha => by
  rw [upA_ne (fun e => ha (by rw [e]; exact hp))]; exact h a ha
theorem Fr0.drop {A B : SD} {p : Addr} (h : Fr0 A B) (hp : A p = none) : Fr0 A (TL.drop B p) := fun a ha => by
  rw [drop_ne (fun e => ha (by rw [e]; exact hp))]; exact h a ha
theorem Fr0.none {A B : SD} (h : Fr0 A B) {p : Addr} (hp : B p = none) : A p = none := by
  cases e : A p with
  | none => rfl
  | some o =>
    have := h p (by rw [e]; exact Option.some_ne_none _)
    rw [hp, e] at this
    cases this
theorem Fr0.sub {A B : SD} (h : Fr0 A B) {Q : QD} {d : D} (q : Q d A) : subQ Q d B := ⟨A, fun a o ha => by rw [h a (by rw [ha]; exact Option.some_ne_none _)]; exact ha, q⟩
/-! lengths -/
theorem len_sig (n : Nat) : (sigS n).length = 1 := rfl
theorem len_em : sEm.length = 0 := by decide +kernel
theorem len_dash : sDash.length = 3 := by decide +kernel
theorem len_line (cs ps : List Cell) (z y : Nat) : (lineS cs ps z y).length ≤ 10 := by
  have h := join_len sEm ((List.range 10).map fun x : Nat => sigS (sigN cs ps ((z : Int), (y : Int), (x : Int))))
  rw [len_em, List.length_map, List.map_map] at h
  exact h
theorem mem_draw {cs ps : List Cell} {m : Nat} {x : Str} (h : x ∈ drawL cs ps m) : x = sDash ∨ ∃ z y, y < 10 ∧ x = lineS cs ps z y := by
  unfold drawL layerL at h
  obtain ⟨z, _, h⟩ := List.mem_flatMap.mp h
  rcases List.mem_append.mp h with h | h
  · split at h
    · simp at h; exact .inl h
    · cases h
  · obtain ⟨y, hy, rfl⟩ := List.mem_map.mp h
    exact .inr ⟨z, y, List.mem_range.mp hy, rfl⟩
theorem draw_len (cs ps : List Cell) : ∀ m : Nat, (drawL cs ps m).length ≤ 11 * m
  | 0 => by simp [drawL]
  | m + 1 => by
    have ih := draw_len cs ps m
    have e : drawL cs ps (m + 1) = drawL cs ps m ++ layerL cs ps m := by
      unfold drawL
      rw [List.range_succ, List.flatMap_append]
      simp
    rw [e, List.length_append]
    have h : (layerL cs ps m).length ≤ 11 := by
      unfold layerL
      rw [List.length_append, List.length_map, List.length_range]
      split <;> simp
    omega
theorem draw_sum (cs ps : List Cell) {m : Nat} (h : m ≤ 100) : ((drawL cs ps m).map (·.length)).sum + (drawL cs ps m).length * sNl.length ≤ 16777216 := by
  have h1 := draw_len cs ps m
  have h2 := sum_le (fun x : Str => x.length) 10 (drawL cs ps m) fun x hx => by
    rcases mem_draw hx with e | ⟨z, y, _, e⟩
    · rw [e]; show sDash.length ≤ 10; rw [len_dash]; decide
    · rw [e]; exact len_line cs ps z y
  rw [len_nl]
  omega
def sp_drawn : SpD := fun ds A Q => ∃ cs ps m, ds = [.tup (cs.map cD), .tup (ps.map cD)] ∧ IsTop (cs ++ ps) m ∧ m ≤ 50 ∧ cs.length + ps.length ≤ 100000 ∧ Q (.str (drawT cs ps m)) A
def dfl_drawn : List D := [.tup []]
-- slots: 0 body 1 props 2 lines 3 z 4 y 5 cell 6 x
/-- lines.append(''.join([ -/
noncomputable def W_drawn_b1 : SW :=
  (sExpr (eM "list" rApp (eVar 2) (aCons (eM "str" rJoin (eC (.str (PySem.Str.ofString ""))) (aCons (eLc (iRng1 (aCons (eC c_WIDE) aNil)) (gVar 6) tYesE (eCall sp_sign_at (aCons (eVar 0) (aCons (eVar 1) (aCons (eTup (aCons (eVar 3) (aCons (eVar 4) (aCons (eVar 6) aNil)))) aNil)))) [6]) aNil)) aNil)))
/-- for y in range(WIDE): -/
noncomputable def W_drawn_t2 : SW :=
  (sFor (iRng1 (aCons (eC c_WIDE) aNil)) (gVar 4)
  W_drawn_b1)
/-- if z > 0: -/
noncomputable def W_drawn_b3 : SW :=
  (sSeq (sIf (tVal (eOp rGt' (eVar 3) (eC (.int 0)))) (sExpr (eM "list" rApp (eVar 2) (aCons (eC c_BETWEEN) aNil))) sNil)
  W_drawn_t2)
/-- return '\n'.join(lines -/
noncomputable def W_drawn_t4 : SW :=
  (sRet (eM "str" rJoin (eC (.str (PySem.Str.ofString "\n"))) (aCons (eVar 2) aNil)))
/-- for z in range(max([ce -/
noncomputable def W_drawn_t5 : SW :=
  (sSeq (sFor (iRng1 (aCons (eOp rAdd' (eCall rMaxL (aCons (eLc (iSeq (eOp rAdd' (eVar 0) (eVar 1))) (gVar 5) tYesE (eOp rIdx (eVar 5) (eC (.int 0))) [5]) aNil)) (eC (.int 1))) aNil)) (gVar 3)
  W_drawn_b3)
  W_drawn_t4)
noncomputable def W_drawn : SW :=
  (sSeq (sSet 2 (eNew aNil))
  W_drawn_t5)
theorem top_max {l : List Cell} {m : Nat} (h : IsTop l m) {k : Int} (h1 : k ∈ l.map (·.1)) (h2 : ∀ y ∈ l.map (·.1), y ≤ k) : k = m := by
  obtain ⟨⟨c, hc, e⟩, hall⟩ := h
  obtain ⟨d, hd, rfl⟩ := List.mem_map.mp h1
  have a := (hall d hd).2
  have b := h2 c.1 (List.mem_map_of_mem hc)
  show d.1 = m
  omega
section
variable {A : SD} {De : EndD} {cs ps : List Cell}
theorem drawn_line {env : ED} {B : SD} {p : Addr} {z y : Nat} {ls : List Str} {N : ED → SD → Prop} (hl : env.length = 7) (e0 : env[0]? = some (some (.tup (cs.map cD)))) (e1 : env[1]? = some (some (.tup (ps.map cD)))) (e2 : env[2]? = some (some (.ref p))) (e3 : env[3]? = some (some (.int (z : Nat)))) (e4 : env[4]? = some (some (.int (y : Nat))))
    (hB : B p = some (.lst (ls.map .str))) (hz : ls.length ≤ 100000) (k : N env (upA B p (.lst ((ls ++ [lineS cs ps z y]).map .str)))) : W_drawn_b1 { nx := N, rt := De.rt, bk := De.nx, ct := N } env B := by
  refine ⟨_, e2, (by simp [tyM, hB]), rfl, ?_⟩
  refine ⟨10, rfl, by decide, small_size (by decide), fun hz2 => ?_⟩
  refine lc_pure (f := fun d => match d with | .int x => some (.str (sigS (sigN cs ps ((z : Int), (y : Int), x)))) | _ => none) hz2 ?_ ?_ ?_
  · exact fun _ _ _ => trivial
  · intro q hq d hd acc Qy Qn h
    obtain ⟨x, hx, rfl⟩ := mem_ints hd
    simp only [w_gvar, w_yes, ↓reduceIte]
    have g : ∀ i : Nat, i ≠ 6 → ((wipeE env [6]).set 6 (some (D.int (x : Nat))))[i]? = env[i]? := fun i hi => by
      rw [List.getElem?_set_ne (fun e => hi e.symm)]
      exact wipeE_get (by simpa using hi)
    have g6 : ((wipeE env [6]).set 6 (some (D.int (x : Nat))))[6]? = some (some (D.int (x : Nat))) := List.getElem?_set_self (by rw [wipeE_length, hl]; decide)
    exact ⟨_, (g 0 (by decide)).trans e0, _, (g 1 (by decide)).trans e1, _, (g 3 (by decide)).trans e3, _, (g 4 (by decide)).trans e4, _, g6, small_size (show 3 ≤ 100000 by decide), cs, ps, ((z : Int), (y : Int), (x : Int)), rfl, h⟩
  · intro q hq
    rw [drop_upA hq]
    have e : (intsD 0 1 (10 : Int).toNat).filterMap (fun d => match d with | .int x => some (D.str (sigS (sigN cs ps ((z : Int), (y : Int), x)))) | _ => none) = ((List.range 10).map fun x : Nat => sigS (sigN cs ps ((z : Int), (y : Int), (x : Int)))).map .str := by
      rw [filterMap_ints (fun x => D.str (sigS (sigN cs ps ((z : Int), (y : Int), (x : Int))))) _ (fun k _ => rfl), List.map_map]
      rfl
    rw [e]
    refine ⟨sEm, _, _, rfl, rfl, rfl, ?_, ?_⟩
    · rw [List.map_map, len_em]
      rw [Nat.mul_zero]
      exact (by decide : (List.map (fun _ : Nat => 1) (List.range 10)).sum + 0 ≤ 16777216)
    · refine ⟨p, _, _, rfl, rfl, hB, ?_, ?_⟩
      · rw [List.length_map]
        have hs : (sizeLine : Nat) = 16777216 := sizeLine_eq
        omega
      · have e5 : ls.map D.str ++ [D.str (lineS cs ps z y)] = (ls ++ [lineS cs ps z y]).map .str := by rw [List.map_append]; rfl
        show N env (upA B p (.lst (ls.map D.str ++ [D.str (lineS cs ps z y)])))
        rw [e5]
        exact k
/-- the frame's slots in the loops -/
structure InD (cs ps : List Cell) (A : SD) (p : Addr) (env : ED) (B : SD) (ls : List Str) : Prop where
  len : env.length = 7
  e0 : env[0]? = some (some (.tup (cs.map cD)))
  e1 : env[1]? = some (some (.tup (ps.map cD)))
  e2 : env[2]? = some (some (.ref p))
  fr : Fr0 A B
  at_ : B p = some (.lst (ls.map .str))
theorem InD.set {p : Addr} {env : ED} {B : SD} {ls : List Str} (h : InD cs ps A p env B ls) {i : Nat} {v : Option D} (hi : 3 ≤ i) : InD cs ps A p (env.set i v) B ls :=
  ⟨by rw [List.length_set]; exact h.len, by rw [List.getElem?_set_ne (by omega)]; exact h.e0, by rw [List.getElem?_set_ne (by omega)]; exact h.e1, by rw [List.getElem?_set_ne (by omega)]; exact h.e2, h.fr, h.at_⟩
theorem InD.put {p : Addr} {env : ED} {B : SD} {ls : List Str} (h : InD cs ps A p env B ls) (hp : A p = none) (l : List Str) : InD cs ps A p env (upA B p (.lst (l.map .str))) l := ⟨h.len, h.e0, h.e1, h.e2, h.fr.up hp, upA_same⟩
theorem drawn_layer {env : ED} {B : SD} {p : Addr} {z : Nat} {ls : List Str} {N : ED → SD → Prop} (I : InD cs ps A p env B ls) (hp : A p = none) (e3 : env[3]? = some (some (.int (z : Nat)))) (hz : ls.length ≤ 10000) (k : ∀ env' B', InD cs ps A p env' B' (ls ++ layerL cs ps z) → N env' B') :
    W_drawn_b3 { nx := N, rt := De.rt, bk := De.nx, ct := N } env B := by
  have loop : ∀ B l, InD cs ps A p env B l → l.length ≤ 10001 → (∀ env' B', InD cs ps A p env' B' (l ++ (List.range 10).map (lineS cs ps z)) → N env' B') → W_drawn_t2 { nx := N, rt := De.rt, bk := De.nx, ct := N } env B := by
    intro B l I hl k
    refine ⟨10, rfl, by decide, small_size (by decide), fun hz2 => ?_⟩
    refine for_inv (fun i env' B' => InD cs ps A p env' B' (l ++ (List.range i).map (lineS cs ps z)) ∧ env'[3]? = some (some (.int (z : Nat)))) (fun i d N' hd hN env' B' hI => ⟨trivial, ?_⟩) (fun env' B' hI => ⟨trivial, ?_⟩) ⟨by simpa using I, e3⟩
    · obtain ⟨J, f3⟩ := hI
      obtain ⟨hi, rfl⟩ := intsD_get hd
      have hi' : i < 10 := hi
      have ei : (0 : Int) + (i : Nat) * 1 = (i : Nat) := by omega
      rw [ei]
      have J' := J.set (i := 4) (v := some (.int (i : Nat))) (by decide)
      refine drawn_line (y := i) (z := z) (ls := l ++ (List.range i).map (lineS cs ps z)) J'.len J'.e0 J'.e1 J'.e2 (by rw [List.getElem?_set_ne (by decide)]; exact f3) (List.getElem?_set_self (by rw [J.len]; decide)) J'.at_ (by rw [List.length_append, List.length_map, List.length_range]; omega) (hN _ _ ⟨?_, by rw [List.getElem?_set_ne (by decide)]; exact f3⟩)
      have e : (l ++ (List.range i).map (lineS cs ps z)) ++ [lineS cs ps z i] = l ++ (List.range (i + 1)).map (lineS cs ps z) := by
        rw [List.range_succ, List.map_append, List.append_assoc]
        rfl
      rw [← e]
      exact J'.put hp _
    · rw [intsD_len] at hI
      exact k _ _ hI.1
  refine ⟨_, e3, _, rfl, ?_⟩
  by_cases h0 : 0 < z
  · refine iteB (c := true) (decide_eq_true (by show (0 : Int) < (z : Nat); omega)) (iteT ?_)
    refine ⟨_, I.e2, (by simp [tyM, I.at_]), p, _, _, rfl, rfl, I.at_, (by rw [List.length_map]; have hs : (sizeLine : Nat) = 16777216 := sizeLine_eq; omega), ?_⟩
    have e5 : ls.map D.str ++ [c_BETWEEN] = (ls ++ [sDash]).map .str := by rw [List.map_append]; rfl
    rw [e5]
    refine loop _ (ls ++ [sDash]) (I.put hp _) (by rw [List.length_append]; show ls.length + 1 ≤ 10001; omega) fun env' B' J => k env' B' ?_
    unfold layerL
    rw [if_pos h0, ← List.append_assoc]
    exact J
  · refine iteB (c := false) (decide_eq_false (by show ¬ (0 : Int) < (z : Nat); omega)) (iteF ?_)
    refine loop _ ls I (by omega) fun env' B' J => k env' B' ?_
    unfold layerL
    rw [if_neg h0]
    exact J
end
theorem max_part {cs ps : List Cell} {m : Nat} {A : SD} {Q : QD} {env : ED} {i : Nat} (ht : IsTop (cs ++ ps) m) (hl : cs.length + ps.length ≤ 100000) (hi : i < env.length) (e0 : env[0]? = some (some (.tup (cs.map cD)))) (e1 : env[1]? = some (some (.tup (ps.map cD)))) (q : Q (.int (m : Nat)) A) :
    eCall rMaxL (aCons (eLc (iSeq (eOp rAdd' (eVar 0) (eVar 1))) (gVar i) tYesE (eOp rIdx (eVar i) (eC (.int 0))) [i]) aNil) env A Q := by
  refine ⟨_, e0, _, e1, small_size (by rw [List.length_map, List.length_map]; exact hl), ?_⟩
  refine ⟨_, rfl, fun hz2 => ?_⟩
  rw [← List.map_append]
  refine lc_pure (f := fun d => match d with | .tup (z :: _) => some z | _ => none) (by rw [List.length_map, List.length_append]; exact small_size hl) ?_ ?_ ?_
  · exact fun _ _ _ => rfl
  · intro p hp d hd acc Qy Qn h
    obtain ⟨c, hc, rfl⟩ := List.mem_map.mp hd
    simp only [w_gvar, w_yes, ↓reduceIte]
    exact ⟨_, List.getElem?_set_self (by rw [wipeE_length]; exact hi), 0, rfl, .inl ⟨_, _, rfl, rfl, h⟩⟩
  · intro p hp
    rw [drop_upA hp]
    have e : ((cs ++ ps).map cD).filterMap (fun d => match d with | .tup (z :: _) => some z | _ => none) = ((cs ++ ps).map (·.1)).map .int := by
      rw [List.filterMap_map, List.map_map, ← List.filterMap_eq_map]
      rfl
    rw [e]
    have hne : 0 < ((cs ++ ps).map (·.1)).length := by
      obtain ⟨⟨c, hc, _⟩, _⟩ := ht
      rw [List.length_map]
      exact List.length_pos_of_mem hc
    refine ⟨_, (cs ++ ps).map (·.1), rfl, rfl, hne, fun k h1 h2 => ?_⟩
    rw [top_max ht h1 h2]
    exact q
theorem wok_drawn (ds : List D) (A : SD) (Q : QD) (h : sp_drawn ds A Q) : ds.length = 2 ∧ W_drawn { nx := fun _ A' => subQ Q .non A', rt := subQ Q } (startD 7 ds) A := by
  obtain ⟨cs, ps, m, rfl, ht, hm, hl, q⟩ := h
  refine ⟨rfl, ?_⟩
  refine ⟨small_size (show 0 ≤ 100000 by decide), fun p hp => ?_⟩
  have I0 : InD cs ps A p ((startD 7 [.tup (cs.map cD), .tup (ps.map cD)]).set 2 (some (.ref p))) (upA A p (.lst [])) [] := ⟨rfl, rfl, rfl, rfl, (Fr0.refl A).up hp, upA_same⟩
  refine max_part (cs := cs) (ps := ps) (m := m) (i := 5) ht hl (show 5 < 7 by decide) rfl rfl ?_
  refine ⟨(m : Int) + 1, rfl, by omega, small_size (by omega), fun hz => ?_⟩
  have em : ((m : Int) + 1).toNat = m + 1 := by omega
  refine for_inv (fun i env B => InD cs ps A p env B (drawL cs ps i)) (fun i d N hd hN env B hI => ⟨trivial, ?_⟩) (fun env B hI => ⟨trivial, ?_⟩) I0
  · obtain ⟨hi, rfl⟩ := intsD_get hd
    have hi' : i < ((m : Int) + 1).toNat := hi
    have ei : (0 : Int) + (i : Nat) * 1 = (i : Nat) := by omega
    rw [ei]
    have h1 := draw_len cs ps i
    refine drawn_layer (z := i) (hI.set (i := 3) (by decide)) hp (List.getElem?_set_self (by rw [hI.len]; decide)) (by omega) fun env' B' J => hN _ _ ?_
    have e : drawL cs ps (i + 1) = drawL cs ps i ++ layerL cs ps i := by
      unfold drawL
      rw [List.range_succ, List.flatMap_append]
      simp
    rw [e]
    exact J
  · rw [intsD_len, em] at hI
    refine ⟨rfl, _, hI.e2, sNl, _, drawL cs ps (m + 1), rfl, rfl, ?_, draw_sum cs ps (by omega), ?_⟩
    · simp only [qv, lv, hI.at_]
    · exact hI.fr.sub q
end TL

/-! WL: bodies drawn the other way. -/
namespace TL
open PySem PySem.Spec L2
def sp__law_drawn : SpD := sp_drawn
-- slots: 0 _law_body_here 1 _law_stays 2 _law_high 3 _law_lines 4 _law_z 5 _law_y 6 _law_signs 7 _law_x 8 _law_cell
/-- if (_law_z, _law_y, _l -/
noncomputable def W__law_drawn_t1 : SW :=
  (sIf (tVal (eOp rIn' (eTup (aCons (eVar 4) (aCons (eVar 5) (aCons (eVar 7) aNil)))) (eVar 0))) (sAsg (eC (.str (PySem.Str.ofString "#"))) (gSub' (eVar 6) (eVar 7) wLst)) sNil)
/-- if (_law_z, _law_y, _l -/
noncomputable def W__law_drawn_b2 : SW :=
  (sSeq (sIf (tVal (eOp rIn' (eTup (aCons (eVar 4) (aCons (eVar 5) (aCons (eVar 7) aNil)))) (eVar 1))) (sAsg (eC (.str (PySem.Str.ofString "+"))) (gSub' (eVar 6) (eVar 7) wLst)) sNil)
  W__law_drawn_t1)
/-- _law_lines.append(''.j -/
noncomputable def W__law_drawn_t3 : SW :=
  (sExpr (eM "list" rApp (eVar 3) (aCons (eM "str" rJoin (eC (.str (PySem.Str.ofString ""))) (aCons (eVar 6) aNil)) aNil)))
/-- for _law_x in range(10 -/
noncomputable def W__law_drawn_t4 : SW :=
  (sSeq (sFor (iRng1 (aCons (eC (.int 10)) aNil)) (gVar 7)
  W__law_drawn_b2)
  W__law_drawn_t3)
/-- _law_signs = ['.'] * 1 -/
noncomputable def W__law_drawn_b5 : SW :=
  (sSeq (sSet 6 (eOp rRepM (eNew (aCons (eC (.str (PySem.Str.ofString "."))) aNil)) (eC (.int 10))))
  W__law_drawn_t4)
/-- for _law_y in range(10 -/
noncomputable def W__law_drawn_t6 : SW :=
  (sFor (iRng1 (aCons (eC (.int 10)) aNil)) (gVar 5)
  W__law_drawn_b5)
/-- _law_lines = _law_line -/
noncomputable def W__law_drawn_b7 : SW :=
  (sSeq (sSet 3 (eOp rAddM (eVar 3) (eFrz (eOp rRepM (eNew (aCons (eC (.str (PySem.Str.ofString "---"))) aNil)) (eCall rInt1 (aCons (eOp rGt' (eVar 4) (eC (.int 0))) aNil))))))
  W__law_drawn_t6)
/-- return '\n'.join(_law_ -/
noncomputable def W__law_drawn_t8 : SW :=
  (sRet (eM "str" rJoin (eC (.str (PySem.Str.ofString "\n"))) (aCons (eVar 3) aNil)))
/-- for _law_z in range(_l -/
noncomputable def W__law_drawn_t9 : SW :=
  (sSeq (sFor (iRng1 (aCons (eOp rAdd' (eVar 2) (eC (.int 1))) aNil)) (gVar 4)
  W__law_drawn_b7)
  W__law_drawn_t8)
/-- _law_lines = [] -/
noncomputable def W__law_drawn_t10 : SW :=
  (sSeq (sSet 3 (eNew aNil))
  W__law_drawn_t9)
noncomputable def W__law_drawn : SW :=
  (sSeq (sSet 2 (eCall rMaxL (aCons (eLc (iSeq (eOp rAdd' (eVar 0) (eVar 1))) (gVar 8) tYesE (eOp rIdx (eVar 8) (eC (.int 0))) [8]) aNil)))
  W__law_drawn_t10)
section
variable {A : SD} {De : EndD} {cs ps : List Cell}
/-- the signs of a line, so many of them set -/
def halfL (cs ps : List Cell) (z y j : Nat) : List D := (List.range 10).map fun x : Nat => D.str (if x < j then sigS (sigN cs ps ((z : Int), (y : Int), (x : Int))) else sigS 46)
theorem halfL_set (cs ps : List Cell) (z y : Nat) {j : Nat} (hj : j < 10) (v : D) (hv : v = .str (sigS (sigN cs ps ((z : Int), (y : Int), (j : Int))))) : (halfL cs ps z y j).set j v = halfL cs ps z y (j + 1) := by
  subst hv
  unfold halfL
  apply List.ext_getElem (by simp)
  intro i h1 h2
  have hi : i < 10 := by simpa using h2
  rw [List.getElem_set]
  by_cases e : j = i
  · subst e
    rw [if_pos rfl]
    simp
  · rw [if_neg e]
    simp only [List.getElem_map, List.getElem_range]
    by_cases h : i < j
    · rw [if_pos h, if_pos (by omega)]
    · rw [if_neg h, if_neg (by omega)]
theorem halfL_keep (cs ps : List Cell) (z y : Nat) {j : Nat} (hj : j < 10) (h : sigN cs ps ((z : Int), (y : Int), (j : Int)) = 46) : halfL cs ps z y j = halfL cs ps z y (j + 1) := by
  unfold halfL
  apply List.map_congr_left
  intro i hi
  by_cases e : i = j
  · subst e
    rw [if_neg (by omega), if_pos (by omega), h]
  · by_cases h2 : i < j
    · rw [if_pos h2, if_pos (by omega)]
    · rw [if_neg h2, if_neg (by omega)]
theorem halfL_len {z y j : Nat} : (halfL cs ps z y j).length = 10 := by simp [halfL]
structure InE (cs ps : List Cell) (A : SD) (p : Addr) (env : ED) (B : SD) (ls : List Str) : Prop where
  len : env.length = 9
  e0 : env[0]? = some (some (.tup (cs.map cD)))
  e1 : env[1]? = some (some (.tup (ps.map cD)))
  e3 : env[3]? = some (some (.ref p))
  new : A p = none
  fr : Fr0 A B
  at_ : B p = some (.lst (ls.map .str))
theorem InE.set {p : Addr} {env : ED} {B : SD} {ls : List Str} (h : InE cs ps A p env B ls) {i : Nat} {v : Option D} (hi : 4 ≤ i) : InE cs ps A p (env.set i v) B ls :=
  ⟨by rw [List.length_set]; exact h.len, by rw [List.getElem?_set_ne (by omega)]; exact h.e0, by rw [List.getElem?_set_ne (by omega)]; exact h.e1, by rw [List.getElem?_set_ne (by omega)]; exact h.e3, h.new, h.fr, h.at_⟩
theorem InE.other {p q : Addr} {env : ED} {B : SD} {ls : List Str} (h : InE cs ps A p env B ls) (hq : A q = none) (hne : q ≠ p) {o : OD} : InE cs ps A p env (upA B q o) ls :=
  ⟨h.len, h.e0, h.e1, h.e3, h.new, h.fr.up hq, by rw [upA_ne (fun e => hne e.symm)]; exact h.at_⟩
theorem lsign {env : ED} {B : SD} {p q : Addr} {z y j : Nat} {ls : List Str} {N : ED → SD → Prop} (I : InE cs ps A p env B ls) (hq : A q = none) (hne : q ≠ p) (e4 : env[4]? = some (some (.int (z : Nat)))) (e5 : env[5]? = some (some (.int (y : Nat)))) (e6 : env[6]? = some (some (.ref q))) (e7 : env[7]? = some (some (.int (j : Nat))))
    (hj : j < 10) (hB : B q = some (.lst (halfL cs ps z y j))) (k : ∀ B', InE cs ps A p env B' ls → B' q = some (.lst (halfL cs ps z y (j + 1))) → N env B') : W__law_drawn_b2 { nx := N, rt := De.rt, bk := De.nx, ct := N } env B := by
  have s3 : (3 : Nat) ≤ sizeLine := small_size (by decide)
  have ix : ∀ L : List D, L.length = 10 → ixN L.length ((j : Nat) : Int) = some j := fun L hL => by
    unfold ixN
    rw [if_pos (by omega), if_pos (by omega)]
    simp
  have tail : ∀ B', InE cs ps A p env B' ls → (∃ L, B' q = some (.lst L) ∧ L.length = 10 ∧ (((z : Int), (y : Int), (j : Int)) ∉ cs → L = halfL cs ps z y (j + 1)) ∧ (((z : Int), (y : Int), (j : Int)) ∈ cs → ∃ v, L = (halfL cs ps z y j).set j v)) → W__law_drawn_t1 { nx := N, rt := De.rt, bk := De.nx, ct := N } env B' := by
    intro B' J ⟨L, h1, h2, h3, h4⟩
    refine ⟨_, e4, _, e5, _, e7, s3, _, J.e0, _, rfl, rfl, ok_cDs, _, rfl, ?_⟩
    by_cases hc : ((z : Int), (y : Int), (j : Int)) ∈ cs
    · refine iteB (c := true) ((mem_cD (c := ((z : Int), (y : Int), (j : Int)))).trans (decide_eq_true hc)) (iteT ?_)
      refine ⟨_, e6, _, e7, q, (j : Nat), L, j, rfl, rfl, h1, ix L h2, ?_⟩
      obtain ⟨v, rfl⟩ := h4 hc
      rw [List.set_set, halfL_set cs ps z y hj _ (by
        show D.str (Str.ofString "#") = _
        rw [s_body]
        simp [sigN, hc])]
      exact k _ (J.other hq hne) upA_same
    · refine iteB (c := false) ((mem_cD (c := ((z : Int), (y : Int), (j : Int)))).trans (decide_eq_false hc)) (iteF ?_)
      exact k _ J (by rw [h1, h3 hc])
  refine ⟨_, e4, _, e5, _, e7, s3, _, I.e1, _, rfl, rfl, ok_cDs, _, rfl, ?_⟩
  by_cases hp : ((z : Int), (y : Int), (j : Int)) ∈ ps
  · refine iteB (c := true) ((mem_cD (c := ((z : Int), (y : Int), (j : Int)))).trans (decide_eq_true hp)) (iteT ?_)
    refine ⟨_, e6, _, e7, q, (j : Nat), _, j, rfl, rfl, hB, ix _ halfL_len, ?_⟩
    refine tail _ (I.other hq hne) ⟨_, upA_same, by rw [List.length_set, halfL_len], fun hc => ?_, fun hc => ⟨_, rfl⟩⟩
    refine halfL_set cs ps z y hj _ ?_
    show D.str (Str.ofString "+") = _
    rw [s_prop]
    simp [sigN, hc, hp]
  · refine iteB (c := false) ((mem_cD (c := ((z : Int), (y : Int), (j : Int)))).trans (decide_eq_false hp)) (iteF ?_)
    refine tail _ I ⟨_, hB, halfL_len, fun hc => halfL_keep cs ps z y hj (by simp [sigN, hc, hp]), fun hc => ⟨.str (sigS 46), ?_⟩⟩
    have : (halfL cs ps z y j)[j]'(by rw [halfL_len]; exact hj) = .str (sigS 46) := by simp [halfL]
    rw [← this, List.set_getElem_self]
theorem lline {env : ED} {B : SD} {p : Addr} {z y : Nat} {ls : List Str} {N : ED → SD → Prop} (I : InE cs ps A p env B ls) (e4 : env[4]? = some (some (.int (z : Nat)))) (e5 : env[5]? = some (some (.int (y : Nat)))) (hz : ls.length ≤ 100000)
    (k : ∀ env' B', InE cs ps A p env' B' (ls ++ [lineS cs ps z y]) → env'[4]? = some (some (.int (z : Nat))) → N env' B') : W__law_drawn_b5 { nx := N, rt := De.rt, bk := De.nx, ct := N } env B := by
  have s1 : (1 : Nat) ≤ sizeLine := small_size (by decide)
  refine ⟨s1, fun q0 hq0 => ?_⟩
  refine ⟨q0, _, 10, rfl, upA_same, rfl, by decide, by decide, small_size (by decide), fun q hq => ?_⟩
  have hne0 : q ≠ q0 := fun e => by rw [e, upA_same] at hq; cases hq
  have hqB : B q = none := by rw [upA_ne hne0] at hq; exact hq
  have hqA := I.fr.none hqB
  have hq0A := I.fr.none hq0
  have hqp : q ≠ p := fun e => by rw [e, I.at_] at hqB; cases hqB
  have hq0p : q0 ≠ p := fun e => by rw [e, I.at_] at hq0; cases hq0
  have eL : (List.replicate (10 : Int).toNat [D.str (Str.ofString ".")]).flatten = halfL cs ps z y 0 := by
    unfold halfL
    rw [s_none]
    rfl
  rw [eL]
  have I1 := ((I.other hq0A hq0p (o := .lst [D.str (Str.ofString ".")])).other hqA hqp (o := .lst (halfL cs ps z y 0))).set (i := 6) (v := some (.ref q)) (by decide)
  refine ⟨10, rfl, by decide, small_size (by decide), fun hz2 => ?_⟩
  refine for_inv (fun j env' B' => InE cs ps A p env' B' ls ∧ env'[4]? = some (some (.int (z : Nat))) ∧ env'[5]? = some (some (.int (y : Nat))) ∧ env'[6]? = some (some (.ref q)) ∧ B' q = some (.lst (halfL cs ps z y j))) (fun j d N' hd hN env' B' hI => ⟨trivial, ?_⟩) (fun env' B' hI => ⟨trivial, ?_⟩) ⟨I1, ?_, ?_, ?_, upA_same⟩
  · obtain ⟨J, f4, f5, f6, f7⟩ := hI
    obtain ⟨hj, rfl⟩ := intsD_get hd
    have hj' : j < 10 := hj
    have ej : (0 : Int) + (j : Nat) * 1 = (j : Nat) := by omega
    rw [ej]
    refine lsign (J.set (i := 7) (v := some (.int (j : Nat))) (by decide)) hqA hqp ?_ ?_ ?_ (List.getElem?_set_self (by rw [J.len]; decide)) hj' f7 fun B'' J' hB' => hN _ _ ⟨J', ?_, ?_, ?_, hB'⟩
    all_goals rw [List.getElem?_set_ne (by decide)]; assumption
  · rw [intsD_len] at hI
    obtain ⟨J, f4, f5, f6, f7⟩ := hI
    have e10 : halfL cs ps z y 10 = ((List.range 10).map fun x : Nat => sigS (sigN cs ps ((z : Int), (y : Int), (x : Int)))).map .str := by
      unfold halfL
      rw [List.map_map]
      apply List.map_congr_left
      intro x hx
      rw [if_pos (List.mem_range.mp hx)]
      rfl
    refine ⟨_, J.e3, (by simp [tyM, J.at_]), rfl, _, f6, sEm, _, (List.range 10).map (fun x : Nat => sigS (sigN cs ps ((z : Int), (y : Int), (x : Int)))), rfl, rfl, ?_, ?_, ?_⟩
    · simp only [qv, lv, f7]
      show some (halfL cs ps z y 10) = _
      rw [e10]
    · rw [List.map_map, len_em, Nat.mul_zero]
      exact (by decide : (List.map (fun _ : Nat => 1) (List.range 10)).sum + 0 ≤ 16777216)
    · refine ⟨p, _, _, rfl, rfl, J.at_, ?_, ?_⟩
      · rw [List.length_map]
        have hs : (sizeLine : Nat) = 16777216 := sizeLine_eq
        omega
      · have e5' : ls.map D.str ++ [D.str (lineS cs ps z y)] = (ls ++ [lineS cs ps z y]).map .str := by rw [List.map_append]; rfl
        show N env' (upA B' p (.lst (ls.map D.str ++ [D.str (lineS cs ps z y)])))
        rw [e5']
        exact k _ _ ⟨J.len, J.e0, J.e1, J.e3, J.new, J.fr.up J.new, upA_same⟩ f4
  · rw [List.getElem?_set_ne (by decide)]; exact e4
  · rw [List.getElem?_set_ne (by decide)]; exact e5
  · exact List.getElem?_set_self (by rw [I.len]; decide)
theorem llayer {env : ED} {B : SD} {p : Addr} {z : Nat} {ls : List Str} {N : ED → SD → Prop} (I : InE cs ps A p env B ls) (e4 : env[4]? = some (some (.int (z : Nat)))) (hz : ls.length ≤ 10000)
    (k : ∀ p' env' B', InE cs ps A p' env' B' (ls ++ layerL cs ps z) → N env' B') : W__law_drawn_b7 { nx := N, rt := De.rt, bk := De.nx, ct := N } env B := by
  have s1 : (1 : Nat) ≤ sizeLine := small_size (by decide)
  refine ⟨_, I.e3, s1, fun q0 hq0 => ?_⟩
  refine ⟨_, e4, .inr ⟨decide ((0 : Int) < (z : Nat)), rfl, ?_⟩⟩
  refine ⟨q0, _, _, rfl, upA_same, rfl, by split <;> decide, by split <;> decide, (by split <;> exact small_size (by decide)), fun q hq => ?_⟩
  have hne0 : q ≠ q0 := fun e => by rw [e, upA_same] at hq; cases hq
  have hqB : B q = none := by rw [upA_ne hne0] at hq; exact hq
  have hqA := I.fr.none hqB
  have hq0A := I.fr.none hq0
  have hqp : q ≠ p := fun e => by rw [e, I.at_] at hqB; cases hqB
  have hq0p : q0 ≠ p := fun e => by rw [e, I.at_] at hq0; cases hq0
  refine ⟨q, _, rfl, upA_same, ?_⟩
  have eD : (List.replicate ((if decide ((0 : Int) < (z : Nat)) = true then (1 : Int) else 0)).toNat [D.str (Str.ofString "---")]).flatten = ((if 0 < z then [sDash] else []) : List Str).map .str := by
    by_cases h0 : 0 < z
    · rw [if_pos h0, if_pos (decide_eq_true (by omega))]
      rfl
    · rw [if_neg h0, if_neg (by simpa using h0)]
      rfl
  rw [eD]
  have hBp : (TL.drop (upA (upA B q0 (.lst [D.str (Str.ofString "---")])) q (.lst (((if 0 < z then [sDash] else []) : List Str).map .str))) q) p = some (.lst (ls.map .str)) := by
    rw [drop_ne (fun e => hqp e.symm), upA_ne (fun e => hqp e.symm), upA_ne (fun e => hq0p e.symm)]
    exact I.at_
  refine ⟨ls.map .str, ((if 0 < z then [sDash] else []) : List Str).map .str, (by show lw _ (.ref p) = some _; simp only [lw, hBp]), rfl, ?_, fun r hr => ?_⟩
  · rw [List.length_map, List.length_map]
    have : ((if 0 < z then [sDash] else []) : List Str).length ≤ 1 := by split <;> simp
    exact small_size (by omega)
  · have fr1 : Fr0 A (TL.drop (upA (upA B q0 (.lst [D.str (Str.ofString "---")])) q (.lst (((if 0 < z then [sDash] else []) : List Str).map .str))) q) := ((I.fr.up hq0A).up hqA).drop hqA
    have hrA := fr1.none hr
    rw [← List.map_append]
    have I2 : InE cs ps A r (env.set 3 (some (.ref r))) (upA (TL.drop (upA (upA B q0 (.lst [D.str (Str.ofString "---")])) q (.lst (((if 0 < z then [sDash] else []) : List Str).map .str))) q) r (.lst ((ls ++ if 0 < z then [sDash] else []).map .str))) (ls ++ if 0 < z then [sDash] else []) :=
      ⟨by rw [List.length_set]; exact I.len, by rw [List.getElem?_set_ne (by decide)]; exact I.e0, by rw [List.getElem?_set_ne (by decide)]; exact I.e1, List.getElem?_set_self (by rw [I.len]; decide), hrA, fr1.up hrA, upA_same⟩
    have hl2 : (ls ++ if 0 < z then [sDash] else []).length ≤ 10001 := by
      rw [List.length_append]
      have : ((if 0 < z then [sDash] else []) : List Str).length ≤ 1 := by split <;> simp
      omega
    refine ⟨10, rfl, by decide, small_size (by decide), fun hz2 => ?_⟩
    refine for_inv (fun i env' B' => InE cs ps A r env' B' ((ls ++ if 0 < z then [sDash] else []) ++ (List.range i).map (lineS cs ps z)) ∧ env'[4]? = some (some (.int (z : Nat)))) (fun i d N' hd hN env' B' hI => ⟨trivial, ?_⟩) (fun env' B' hI => ⟨trivial, ?_⟩) ⟨by simpa using I2, by rw [List.getElem?_set_ne (by decide)]; exact e4⟩
    · obtain ⟨J, f4⟩ := hI
      obtain ⟨hi, rfl⟩ := intsD_get hd
      have hi' : i < 10 := hi
      have ei : (0 : Int) + (i : Nat) * 1 = (i : Nat) := by omega
      rw [ei]
      refine lline (J.set (i := 5) (v := some (.int (i : Nat))) (by decide)) (by rw [List.getElem?_set_ne (by decide)]; exact f4) (List.getElem?_set_self (by rw [J.len]; decide)) (by rw [List.length_append, List.length_map, List.length_range]; omega) fun env'' B'' J' g4 => hN _ _ ⟨?_, g4⟩
      have e : ((ls ++ if 0 < z then [sDash] else []) ++ (List.range i).map (lineS cs ps z)) ++ [lineS cs ps z i] = (ls ++ if 0 < z then [sDash] else []) ++ (List.range (i + 1)).map (lineS cs ps z) := by
        rw [List.range_succ, List.map_append, List.append_assoc]
        rfl
      rw [← e]
      exact J'
    · rw [intsD_len] at hI
      refine k r _ _ ?_
      have := hI.1
      rw [List.append_assoc] at this
      exact this
end
theorem wok__law_drawn (ds : List D) (A : SD) (Q : QD) (h : sp__law_drawn ds A Q) : ds.length = 2 ∧ W__law_drawn { nx := fun _ A' => subQ Q .non A', rt := subQ Q } (startD 9 ds) A := by
  obtain ⟨cs, ps, m, rfl, ht, hm, hl, q⟩ := h
  refine ⟨rfl, ?_⟩
  refine max_part (cs := cs) (ps := ps) (m := m) (i := 8) ht hl (show 8 < 9 by decide) rfl rfl ?_
  refine ⟨small_size (show 0 ≤ 100000 by decide), fun p hp => ?_⟩
  refine ⟨_, rfl, (m : Int) + 1, rfl, by omega, small_size (by omega), fun hz => ?_⟩
  have em : ((m : Int) + 1).toNat = m + 1 := by omega
  refine for_inv (fun i env B => ∃ p, InE cs ps A p env B (drawL cs ps i)) (fun i d N hd hN env B hI => ⟨trivial, ?_⟩) (fun env B hI => ⟨trivial, ?_⟩) ⟨p, rfl, rfl, rfl, rfl, hp, (Fr0.refl A).up hp, upA_same⟩
  · obtain ⟨p, J⟩ := hI
    obtain ⟨hi, rfl⟩ := intsD_get hd
    have hi' : i < ((m : Int) + 1).toNat := hi
    have ei : (0 : Int) + (i : Nat) * 1 = (i : Nat) := by omega
    rw [ei]
    have h1 := draw_len cs ps i
    refine llayer (z := i) (J.set (i := 4) (v := some (.int (i : Nat))) (by decide)) (List.getElem?_set_self (by rw [J.len]; decide)) (by omega) fun p' env' B' J' => hN _ _ ⟨p', ?_⟩
    have e : drawL cs ps (i + 1) = drawL cs ps i ++ layerL cs ps i := by
      unfold drawL
      rw [List.range_succ, List.flatMap_append]
      simp
    rw [e]
    exact J'
  · rw [intsD_len, em] at hI
    obtain ⟨p, J⟩ := hI
    refine ⟨rfl, _, J.e3, sNl, _, drawL cs ps (m + 1), rfl, rfl, ?_, draw_sum cs ps (by omega), ?_⟩
    · simp only [qv, lv, J.at_]
    · exact J.fr.sub q
end TL

/-! WM: a drawn body read. -/
namespace TL
open PySem PySem.Spec L2
theorem joinL_nil : ∀ ps : List (List Nat), joinL [] ps = ps.flatten
  | [] => rfl
  | [p] => by simp [joinL]
  | p :: q :: r => by
    show p ++ ([] ++ joinL [] (q :: r)) = _
    rw [joinL_nil (q :: r)]
    simp
theorem tl_line (cs ps : List Cell) (z y : Nat) : tl (lineS cs ps z y) = (List.range 10).map fun x : Nat => sigN cs ps ((z : Int), (y : Int), (x : Int)) := by
  unfold lineS
  rw [tl_tjoin, show tl sEm = [] by decide +kernel, joinL_nil, List.map_map]
  have gen : ∀ l : List Nat, (l.map (tl ∘ fun x : Nat => sigS (sigN cs ps ((z : Int), (y : Int), (x : Int))))).flatten = l.map fun x : Nat => sigN cs ps ((z : Int), (y : Int), (x : Int)) := by
    intro l
    induction l with
    | nil => rfl
    | cons a l ih =>
      rw [List.map_cons, List.flatten_cons, ih]
      rfl
  exact gen _
theorem len_line10 (cs ps : List Cell) (z y : Nat) : (lineS cs ps z y).length = 10 := by rw [len_tl, tl_line]; simp
theorem sig_cases (cs ps : List Cell) (c : Cell) : sigN cs ps c = 35 ∨ sigN cs ps c = 43 ∨ sigN cs ps c = 46 := by
  unfold sigN
  split
  · exact .inl rfl
  · split
    · exact .inr (.inl rfl)
    · exact .inr (.inr rfl)
theorem draw_succ (cs ps : List Cell) (m : Nat) : drawL cs ps (m + 1) = drawL cs ps m ++ layerL cs ps m := by
  unfold drawL
  rw [List.range_succ, List.flatMap_append]
  simp
theorem layer_len (cs ps : List Cell) (z : Nat) : (layerL cs ps z).length = if 0 < z then 11 else 10 := by
  unfold layerL
  rw [List.length_append, List.length_map, List.length_range]
  split <;> rfl
theorem draw_length (cs ps : List Cell) : ∀ m : Nat, (drawL cs ps (m + 1)).length = 11 * (m + 1) - 1
  | 0 => by rw [draw_succ, List.length_append, layer_len]; rfl
  | m + 1 => by
    rw [draw_succ, List.length_append, draw_length cs ps m, layer_len, if_pos (by omega)]
    omega
theorem draw_get (cs ps : List Cell) : ∀ (m i : Nat), i < 11 * (m + 1) - 1 → (drawL cs ps (m + 1))[i]? = some (if i % 11 < 10 then lineS cs ps (i / 11) (i % 11) else sDash)
  | 0, i, h => by
    have hi : i < 10 := by omega
    rw [draw_succ]
    show ([] ++ layerL cs ps 0)[i]? = _
    unfold layerL
    rw [if_neg (by decide), if_pos (by omega), List.nil_append, List.nil_append, List.getElem?_map, List.getElem?_range hi]
    have e1 : i / 11 = 0 := by omega
    have e2 : i % 11 = i := by omega
    rw [e1, e2]
    rfl
  | m + 1, i, h => by
    rw [draw_succ]
    by_cases hi : i < 11 * (m + 1) - 1
    · rw [List.getElem?_append_left (by rw [draw_length]; exact hi)]
      exact draw_get cs ps m i hi
    · rw [List.getElem?_append_right (by rw [draw_length]; omega), draw_length]
      unfold layerL
      rw [if_pos (by omega)]
      by_cases hd : i = 11 * (m + 1) - 1
      · have e : i - (11 * (m + 1) - 1) = 0 := by omega
        rw [e, if_neg (by omega)]
        rfl
      · have e : i - (11 * (m + 1) - 1) = (i - 11 * (m + 1)) + 1 := by omega
        rw [e, if_pos (by omega)]
        show ((List.range 10).map (lineS cs ps (m + 1)))[i - 11 * (m + 1)]? = _
        rw [List.getElem?_map, List.getElem?_range (by omega)]
        have e1 : i / 11 = m + 1 := by omega
        have e2 : i % 11 = i - 11 * (m + 1) := by omega
        rw [e1, e2]
        rfl
/-- the cells of the i-th line -/
def pick (f : Cell → Bool) (i : Nat) : List Cell := if i % 11 < 10 then ((List.range 10).filter fun x : Nat => f (((i / 11 : Nat) : Int), ((i % 11 : Nat) : Int), (x : Int))).map fun x : Nat => (((i / 11 : Nat) : Int), ((i % 11 : Nat) : Int), (x : Int)) else []
def picks (f : Cell → Bool) (n : Nat) : List Cell := (List.range n).flatMap (pick f)
theorem mem_pick {f : Cell → Bool} {i : Nat} {c : Cell} (h : c ∈ pick f i) : c.1 = ((i / 11 : Nat) : Int) ∧ c.2.1 = ((i % 11 : Nat) : Int) ∧ f c = true ∧ i % 11 < 10 ∧ 0 ≤ c.2.2 ∧ c.2.2 < 10 := by
  unfold pick at h
  split at h
  · rename_i hi
    obtain ⟨x, hx, rfl⟩ := List.mem_map.mp h
    obtain ⟨h1, h2⟩ := List.mem_filter.mp hx
    have := List.mem_range.mp h1
    exact ⟨rfl, rfl, h2, hi, by show (0 : Int) ≤ (x : Int); omega, by show (x : Int) < 10; omega⟩
  · cases h
theorem picks_up (f : Cell → Bool) (n : Nat) : (picks f n).Pairwise CLt := by
  unfold picks
  rw [List.pairwise_flatMap]
  refine ⟨fun i _ => ?_, ?_⟩
  · unfold pick
    split
    · rw [List.pairwise_map]
      refine List.Pairwise.filter _ ?_
      refine (List.pairwise_lt_range).imp ?_
      intro a b hab
      exact .inr ⟨rfl, .inr ⟨rfl, by show (a : Int) < (b : Int); omega⟩⟩
    · exact .nil
  · refine (List.pairwise_lt_range).imp ?_
    intro i j hij x hx y hy
    have h1 := mem_pick hx
    have h2 := mem_pick hy
    unfold CLt
    omega
theorem up_ext : ∀ {l l' : List Cell}, l.Pairwise CLt → l'.Pairwise CLt → (∀ c, c ∈ l ↔ c ∈ l') → l = l'
  | [], [], _, _, _ => rfl
  | [], b :: l', _, _, h => by have := (h b).mpr (by simp); cases this
  | a :: l, [], _, _, h => by have := (h a).mp (by simp); cases this
  | a :: l, b :: l', h1, h2, h => by
    obtain ⟨p1, p2⟩ := List.pairwise_cons.mp h1
    obtain ⟨q1, q2⟩ := List.pairwise_cons.mp h2
    have e : a = b := by
      rcases List.mem_cons.mp ((h a).mp (by simp)) with e | ha
      · exact e
      · rcases List.mem_cons.mp ((h b).mpr (by simp)) with e | hb
        · exact e.symm
        · exact absurd ((q1 a ha).trans (p1 b hb)) CLt.irrefl
    subst e
    rw [up_ext p2 q2 fun c => ?_]
    constructor
    · intro hc
      rcases List.mem_cons.mp ((h c).mp (List.mem_cons_of_mem _ hc)) with e | hc'
      · subst e; exact absurd (p1 c hc) CLt.irrefl
      · exact hc'
    · intro hc
      rcases List.mem_cons.mp ((h c).mpr (List.mem_cons_of_mem _ hc)) with e | hc'
      · subst e; exact absurd (q1 c hc) CLt.irrefl
      · exact hc'
/-- a body and props that may be drawn -/
structure DrawOk (cs ps : List Cell) (m : Nat) : Prop where
  up1 : cs.Pairwise CLt
  up2 : ps.Pairwise CLt
  dis : ∀ c ∈ cs, c ∉ ps
  ne : cs ≠ []
  l1 : cs.length ≤ 200
  l2 : ps.length ≤ 10000
  top : IsTop (cs ++ ps) m
  m7 : m ≤ 7
  rg : ∀ c ∈ cs ++ ps, 0 ≤ c.2.1 ∧ c.2.1 < 10 ∧ 0 ≤ c.2.2 ∧ c.2.2 < 10
theorem picks_all {cs ps l : List Cell} {m : Nat} (h : DrawOk cs ps m) {f : Cell → Bool} (up : l.Pairwise CLt) (sub : ∀ c ∈ l, c ∈ cs ++ ps) (hf : ∀ c, f c = true ↔ c ∈ l) : picks f (11 * (m + 1) - 1) = l := by
  refine up_ext (picks_up _ _) up fun c => ⟨fun hc => ?_, fun hc => ?_⟩
  · obtain ⟨i, _, hi⟩ := List.mem_flatMap.mp hc
    exact (hf c).mp (mem_pick hi).2.2.1
  · have h1 := sub c hc
    have h2 := h.top.2 c h1
    have h3 := h.rg c h1
    have m7 := h.m7
    obtain ⟨z, y, x⟩ := c
    have h2 : 0 ≤ z ∧ z ≤ (m : Int) := h2
    have h3 : 0 ≤ y ∧ y < 10 ∧ 0 ≤ x ∧ x < 10 := h3
    obtain ⟨zn, rfl⟩ : ∃ n : Nat, z = n := ⟨z.toNat, by omega⟩
    obtain ⟨yn, rfl⟩ : ∃ n : Nat, y = n := ⟨y.toNat, by omega⟩
    obtain ⟨xn, rfl⟩ : ∃ n : Nat, x = n := ⟨x.toNat, by omega⟩
    have hz : zn ≤ m := by omega
    have hy : yn < 10 := by omega
    have hx : xn < 10 := by omega
    refine List.mem_flatMap.mpr ⟨11 * zn + yn, List.mem_range.mpr (by omega), ?_⟩
    unfold pick
    have e1 : (11 * zn + yn) / 11 = zn := by omega
    have e2 : (11 * zn + yn) % 11 = yn := by omega
    rw [e1, e2, if_pos hy]
    exact List.mem_map.mpr ⟨xn, List.mem_filter.mpr ⟨List.mem_range.mpr hx, (hf _).mpr hc⟩, rfl⟩
theorem sig35 {cs ps : List Cell} {c : Cell} : (sigN cs ps c == 35) = true ↔ c ∈ cs := by
  unfold sigN
  by_cases h : c ∈ cs
  · simp [h]
  · by_cases h2 : c ∈ ps <;> simp [h, h2]
theorem sig43 {cs ps : List Cell} (dis : ∀ c ∈ cs, c ∉ ps) {c : Cell} : (sigN cs ps c == 43) = true ↔ c ∈ ps := by
  unfold sigN
  by_cases h : c ∈ cs
  · simp [h, dis c h]
  · by_cases h2 : c ∈ ps <;> simp [h, h2]
def sp_read_drawn : SpD := fun ds A Q => ∃ cs ps m, ds = [.str (drawT cs ps m)] ∧ DrawOk cs ps m ∧ Q (.tup [.tup (cs.map cD), .tup (ps.map cD)]) A
-- slots: 0 text 1 lines 2 body 3 props 4 at 5 line 6 z 7 y 8 found 9 x 10 sign
/-- props.extend([(z, y, x -/
noncomputable def W_read_drawn_t1 : SW :=
  (sExpr (eM "list" rExt (eVar 3) (aCons (eLc (iEnum (aCons (eVar 5) aNil)) (gTup' 2 (gsCons (gVar 9) (gsCons (gVar 10) gsNil))) (tVal (eOp rEq' (eVar 10) (eC (.str (PySem.Str.ofString "+"))))) (eTup (aCons (eVar 6) (aCons (eVar 7) (aCons (eVar 9) aNil)))) [9, 10]) aNil)))
/-- body.extend([(z, y, x) -/
noncomputable def W_read_drawn_t2 : SW :=
  (sSeq (sExpr (eM "list" rExt (eVar 2) (aCons (eLc (iEnum (aCons (eVar 5) aNil)) (gTup' 2 (gsCons (gVar 9) (gsCons (gVar 10) gsNil))) (tVal (eOp rEq' (eVar 10) (eC (.str (PySem.Str.ofString "#"))))) (eTup (aCons (eVar 6) (aCons (eVar 7) (aCons (eVar 9) aNil)))) [9, 10]) aNil)))
  W_read_drawn_t1)
/-- if y < WIDE: -/
noncomputable def W_read_drawn_t3 : SW :=
  (sIf (tVal (eOp rLt' (eVar 7) (eC c_WIDE))) (sSeq (sIf (tVal (eOp rNe' (eCall rLen (aCons (eVar 5) aNil)) (eC c_WIDE))) sNever sNil)
  W_read_drawn_t2) sNil)
/-- z, y = (at // (WIDE +  -/
noncomputable def W_read_drawn_b4 : SW :=
  (sSeq (sAsg (eTup (aCons (eOp rFdiv (eVar 4) (eOp rAdd' (eC c_WIDE) (eC (.int 1)))) (aCons (eOp rMod (eVar 4) (eOp rAdd' (eC c_WIDE) (eC (.int 1)))) aNil))) (gTup' 2 (gsCons (gVar 6) (gsCons (gVar 7) gsNil))))
  W_read_drawn_t3)
/-- return found -/
noncomputable def W_read_drawn_t5 : SW :=
  (sRet (eVar 8))
/-- if not is_body(found[0 -/
noncomputable def W_read_drawn_t6 : SW :=
  (sSeq (sIf (tOr' (tNot' (tVal (eCall sp_is_body (aCons (eOp rIdx (eVar 8) (eC (.int 0))) aNil)))) (tVal (eOp rNe' (eCallK sp_drawn 1 1 (fun a b => a ++ b) (aCons (eOp rIdx (eVar 8) (eC (.int 0))) aNil) (aCons (eOp rIdx (eVar 8) (eC (.int 1))) aNil)) (eVar 0)))) sNever sNil)
  W_read_drawn_t5)
/-- found = (tuple(body),  -/
noncomputable def W_read_drawn_t7 : SW :=
  (sSeq (sSet 8 (eTup (aCons (eCall rTup (aCons (eVar 2) aNil)) (aCons (eCall rTup (aCons (eVar 3) aNil)) aNil))))
  W_read_drawn_t6)
/-- for at, line in enumer -/
noncomputable def W_read_drawn_t8 : SW :=
  (sSeq (sFor (iEnum (aCons (eVar 1) aNil)) (gTup' 2 (gsCons (gVar 4) (gsCons (gVar 5) gsNil)))
  W_read_drawn_b4)
  W_read_drawn_t7)
/-- body, props = ([], []) -/
noncomputable def W_read_drawn_t9 : SW :=
  (sSeq (sPar 2 3 (aCons (eNew aNil) (aCons (eNew aNil) aNil)))
  W_read_drawn_t8)
/-- if len(lines) % (WIDE  -/
noncomputable def W_read_drawn_t10 : SW :=
  (sSeq (sIf (tOr' (tVal (eOp rNe' (eOp rMod (eCall rLen (aCons (eVar 1) aNil)) (eOp rAdd' (eC c_WIDE) (eC (.int 1)))) (eC c_WIDE))) (tVal (eOp rGt' (eOp rFdiv (eCall rLen (aCons (eVar 1) aNil)) (eOp rAdd' (eC c_WIDE) (eC (.int 1)))) (eC c_TOP)))) sNever sNil)
  W_read_drawn_t9)
/-- lines = text.split('\n -/
noncomputable def W_read_drawn_t11 : SW :=
  (sSeq (sSet 1 (eM "str" rSplit (eVar 0) (aCons (eC (.str (PySem.Str.ofString "\n"))) aNil)))
  W_read_drawn_t10)
noncomputable def W_read_drawn : SW :=
  (sSeq (sIf (tNot' (tVal (eIsi (eVar 0) "str"))) sNever sNil)
  W_read_drawn_t11)
theorem enum_line (cs ps : List Cell) (z y : Nat) : enumD (chars (lineS cs ps z y)) = (List.range 10).map fun x : Nat => D.tup [.int (x : Nat), .str (sigS (sigN cs ps ((z : Int), (y : Int), (x : Int))))] := by
  unfold chars
  rw [show (lineS cs ps z y).cps.toList = _ from tl_line cs ps z y, List.map_map]
  apply List.ext_getElem?
  intro i
  rw [enumD_get, List.getElem?_map, List.getElem?_map, Option.map_map]
  by_cases hi : i < 10
  · rw [List.getElem?_range hi]
    rfl
  · rw [List.getElem?_eq_none (by simpa using Nat.le_of_not_lt hi)]
    rfl
theorem sig_inj {a b : Nat} (h : sigS a = sigS b) : a = b := by
  have h2 : tl (sigS a) = tl (sigS b) := by rw [h]
  have h3 : [a] = [b] := h2
  injection h3
section
variable {A : SD} {De : EndD} {cs ps : List Cell}
/-- the cells of a line with the sign n -/
theorem read_part {env : ED} {B : SD} {Q : QD} {z y n : Nat} {sg : Str} (hsg : sg = sigS n) (hl : env.length = 11) (e5 : env[5]? = some (some (.str (lineS cs ps z y)))) (e6 : env[6]? = some (some (.int (z : Nat)))) (e7 : env[7]? = some (some (.int (y : Nat))))
    (q : Q (.lst ((((List.range 10).filter fun x : Nat => sigN cs ps ((z : Int), (y : Int), (x : Int)) == n).map fun x : Nat => ((z : Int), (y : Int), (x : Int))).map cD)) B) :
    eLc (iEnum (aCons (eVar 5) aNil)) (gTup' 2 (gsCons (gVar 9) (gsCons (gVar 10) gsNil))) (tVal (eOp rEq' (eVar 10) (eC (.str sg)))) (eTup (aCons (eVar 6) (aCons (eVar 7) (aCons (eVar 9) aNil)))) [9, 10] env B Q := by
  subst hsg
  refine ⟨_, e5, _, chars (lineS cs ps z y), rfl, rfl, ?_, fun hz => ?_⟩
  · unfold chars
    rw [List.length_map]
    show (tl (lineS cs ps z y)).length ≤ sizeLine
    rw [← len_tl, len_line10]
    exact small_size (by decide)
  refine lc_pure (f := fun d => match d with | .tup [.int x, .str s] => if s = sigS n then some (cD ((z : Int), (y : Int), x)) else none | _ => none) hz ?_ ?_ ?_
  · exact fun _ _ _ => rfl
  · intro p hp d hd acc Qy Qn h
    rw [enum_line] at hd
    obtain ⟨x, hx, rfl⟩ := List.mem_map.mp hd
    refine ⟨_, rfl, rfl, _, _, rfl, _, _, rfl, rfl, ?_⟩
    have g : ∀ i : Nat, i ≠ 9 → i ≠ 10 → (((wipeE env [9, 10]).set 9 (some (D.int (x : Nat)))).set 10 (some (D.str (sigS (sigN cs ps ((z : Int), (y : Int), (x : Int)))))))[i]? = env[i]? := fun i h1 h2 => by
      rw [List.getElem?_set_ne (fun e => h2 e.symm), List.getElem?_set_ne (fun e => h1 e.symm)]
      exact wipeE_get (by simp; exact ⟨h1, h2⟩)
    have g9 : (((wipeE env [9, 10]).set 9 (some (D.int (x : Nat)))).set 10 (some (D.str (sigS (sigN cs ps ((z : Int), (y : Int), (x : Int)))))))[9]? = some (some (D.int (x : Nat))) := by
      rw [List.getElem?_set_ne (by decide), List.getElem?_set_self (by rw [wipeE_length, hl]; decide)]
    have g10 : (((wipeE env [9, 10]).set 9 (some (D.int (x : Nat)))).set 10 (some (D.str (sigS (sigN cs ps ((z : Int), (y : Int), (x : Int)))))))[10]? = some (some (D.str (sigS (sigN cs ps ((z : Int), (y : Int), (x : Int)))))) := List.getElem?_set_self (by rw [List.length_set, wipeE_length, hl]; decide)
    refine ⟨_, g10, rfl, rfl, _, rfl, ?_⟩
    by_cases e : sigS (sigN cs ps ((z : Int), (y : Int), (x : Int))) = sigS n
    · refine iteB (c := true) (decide_eq_true (congrArg D.str e)) (iteT ?_)
      refine ⟨_, (g 6 (by decide) (by decide)).trans e6, _, (g 7 (by decide) (by decide)).trans e7, _, g9, small_size (show 3 ≤ 100000 by decide), ?_⟩
      simpa [e, cD] using h
    · refine iteB (c := false) (decide_eq_false fun h => e (D.str.inj h)) (iteF ?_)
      simpa [e] using h
  · intro p hp
    rw [drop_upA hp, enum_line]
    have e : ((List.range 10).map fun x : Nat => D.tup [.int (x : Nat), .str (sigS (sigN cs ps ((z : Int), (y : Int), (x : Int))))]).filterMap (fun d => match d with | .tup [.int x, .str s] => if s = sigS n then some (cD ((z : Int), (y : Int), x)) else none | _ => none) = (((List.range 10).filter fun x : Nat => sigN cs ps ((z : Int), (y : Int), (x : Int)) == n).map fun x : Nat => ((z : Int), (y : Int), (x : Int))).map cD := by
      have gen : ∀ l : List Nat, (l.map fun x : Nat => D.tup [.int (x : Nat), .str (sigS (sigN cs ps ((z : Int), (y : Int), (x : Int))))]).filterMap (fun d => match d with | .tup [.int x, .str s] => if s = sigS n then some (cD ((z : Int), (y : Int), x)) else none | _ => none) = ((l.filter fun x : Nat => sigN cs ps ((z : Int), (y : Int), (x : Int)) == n).map fun x : Nat => ((z : Int), (y : Int), (x : Int))).map cD := by
        intro l
        induction l with
        | nil => rfl
        | cons a l ih =>
          rw [List.map_cons, List.filterMap_cons, List.filter_cons]
          by_cases hs : sigN cs ps ((z : Int), (y : Int), (a : Int)) = n
          · simp only [hs, if_true, beq_self_eq_true, List.map_cons]
            rw [ih]
          · have h1 : ¬ sigS (sigN cs ps ((z : Int), (y : Int), (a : Int))) = sigS n := fun h => hs (sig_inj h)
            have h2 : (sigN cs ps ((z : Int), (y : Int), (a : Int)) == n) = false := by simpa using hs
            simp only [h1, if_false, h2]
            exact ih
      exact gen _
    rw [e]
    exact q
end
end TL

/-! WN: a drawn body read, the loop. -/
namespace TL
open PySem PySem.Spec L2
section
variable {A : SD} {De : EndD} {cs ps : List Cell} {T : Str}
structure InR (A : SD) (T : Str) (pb pp : Addr) (env : ED) (B : SD) (bs qs : List Cell) : Prop where
  len : env.length = 11
  e0 : env[0]? = some (some (.str T))
  e2 : env[2]? = some (some (.ref pb))
  e3 : env[3]? = some (some (.ref pp))
  fr : Fr0 A B
  b1 : B pb = some (.lst (bs.map cD))
  b2 : B pp = some (.lst (qs.map cD))
theorem InR.set {pb pp : Addr} {env : ED} {B : SD} {bs qs : List Cell} (h : InR A T pb pp env B bs qs) {i : Nat} {v : Option D} (hi : 4 ≤ i) : InR A T pb pp (env.set i v) B bs qs :=
  ⟨by rw [List.length_set]; exact h.len, by rw [List.getElem?_set_ne (by omega)]; exact h.e0, by rw [List.getElem?_set_ne (by omega)]; exact h.e2, by rw [List.getElem?_set_ne (by omega)]; exact h.e3, h.fr, h.b1, h.b2⟩
theorem pick35 (cs ps : List Cell) {i : Nat} (hi : i % 11 < 10) (n : Nat) : pick (fun c => sigN cs ps c == n) i = ((List.range 10).filter fun x : Nat => sigN cs ps (((i / 11 : Nat) : Int), ((i % 11 : Nat) : Int), (x : Int)) == n).map fun x : Nat => (((i / 11 : Nat) : Int), ((i % 11 : Nat) : Int), (x : Int)) := by
  unfold pick
  rw [if_pos hi]
theorem pick_len {f : Cell → Bool} {i : Nat} : (pick f i).length ≤ 10 := by
  unfold pick
  split
  · rw [List.length_map]
    exact Nat.le_trans (List.length_filter_le _ _) (by simp)
  · simp
theorem read_step {env : ED} {B : SD} {pb pp : Addr} {bs qs : List Cell} {i : Nat} {l : Str} {N : ED → SD → Prop} (I : InR A T pb pp env B bs qs) (hb : A pb = none) (hp : A pp = none) (hne : pb ≠ pp) (e4 : env[4]? = some (some (.int (i : Nat)))) (e5 : env[5]? = some (some (.str l)))
    (hl : l = if i % 11 < 10 then lineS cs ps (i / 11) (i % 11) else sDash) (h1 : bs.length ≤ 1000) (h2 : qs.length ≤ 1000) (k : ∀ env' B', InR A T pb pp env' B' (bs ++ pick (fun c => sigN cs ps c == 35) i) (qs ++ pick (fun c => sigN cs ps c == 43) i) → N env' B') :
    W_read_drawn_b4 { nx := N, rt := De.rt, bk := De.nx, ct := N } env B := by
  have s2 : (2 : Nat) ≤ sizeLine := small_size (by decide)
  refine ⟨_, e4, ⟨by decide, by decide⟩, _, e4, (by decide : (0 : Int) < 10 + 1), s2, _, rfl, rfl, _, _, rfl, _, _, rfl, rfl, ?_⟩
  have I' := (I.set (i := 6) (v := some (.int ((fun a b : Int => a / b) (i : Nat) (10 + 1)))) (by decide)).set (i := 7) (v := some (.int ((fun a b : Int => a % b) (i : Nat) (10 + 1)))) (by decide)
  have ez : ((i : Nat) : Int) / (10 + 1) = ((i / 11 : Nat) : Int) := by omega
  have ey : ((i : Nat) : Int) % (10 + 1) = ((i % 11 : Nat) : Int) := by omega
  have g5 : ((env.set 6 (some (.int ((fun a b : Int => a / b) (i : Nat) (10 + 1))))).set 7 (some (.int ((fun a b : Int => a % b) (i : Nat) (10 + 1)))))[5]? = some (some (.str l)) := by
    rw [List.getElem?_set_ne (by decide), List.getElem?_set_ne (by decide)]; exact e5
  have g6 : ((env.set 6 (some (.int ((fun a b : Int => a / b) (i : Nat) (10 + 1))))).set 7 (some (.int ((fun a b : Int => a % b) (i : Nat) (10 + 1)))))[6]? = some (some (.int ((i / 11 : Nat) : Int))) := by
    rw [List.getElem?_set_ne (by decide), List.getElem?_set_self (by rw [I.len]; decide)]
    exact congrArg (fun t => some (some (D.int t))) ez
  have g7 : ((env.set 6 (some (.int ((fun a b : Int => a / b) (i : Nat) (10 + 1))))).set 7 (some (.int ((fun a b : Int => a % b) (i : Nat) (10 + 1)))))[7]? = some (some (.int ((i % 11 : Nat) : Int))) := by
    rw [List.getElem?_set_self (by rw [List.length_set, I.len]; decide)]
    exact congrArg (fun t => some (some (D.int t))) ey
  generalize ((env.set 6 (some (D.int ((fun a b : Int => a / b) (i : Nat) (10 + 1))))).set 7 (some (.int ((fun a b : Int => a % b) (i : Nat) (10 + 1))))) = en at I' g5 g6 g7
  show W_read_drawn_t3 _ en B
  refine ⟨_, g7, _, rfl, ?_⟩
  by_cases hi : i % 11 < 10
  · refine iteB (c := true) (decide_eq_true (by show ((i % 11 : Nat) : Int) < 10; omega)) (iteT ?_)
    rw [if_pos hi] at hl
    subst hl
    have hll : (lineS cs ps (i / 11) (i % 11)).length = 10 := len_line10 cs ps _ _
    refine ⟨_, g5, _, rfl, .inr ⟨_, rfl, (by rw [hll]; exact small_size (by decide)), rfl, rfl, _, rfl, ?_⟩⟩
    refine iteB (c := false) ?_ (iteF ?_)
    · show (!decide (D.int (((lineS cs ps (i / 11) (i % 11)).length : Nat) : Int) = D.int 10)) = false
      rw [hll]
      rw [decide_eq_true (show D.int ((10 : Nat) : Int) = D.int 10 from rfl)]
      rfl
    · have hs : (sizeLine : Nat) = 16777216 := sizeLine_eq
      have p1 := pick_len (f := fun c => sigN cs ps c == 35) (i := i)
      have p2 := pick_len (f := fun c => sigN cs ps c == 43) (i := i)
      refine ⟨_, I'.e2, (by simp [tyM, I'.b1]), ?_⟩
      refine read_part (cs := cs) (ps := ps) (z := i / 11) (y := i % 11) (n := 35) s_body I'.len g5 g6 g7 ?_
      rw [← pick35 cs ps hi 35]
      refine ⟨pb, _, _, _, rfl, rfl, I'.b1, (fun e => by cases e), rfl, by rw [List.length_map, List.length_map]; omega, ?_⟩
      rw [← List.map_append]
      have hpp : upA B pb (.lst ((bs ++ pick (fun c => sigN cs ps c == 35) i).map cD)) pp = some (.lst (qs.map cD)) := by
        rw [upA_ne (fun e => hne e.symm)]; exact I'.b2
      refine ⟨_, I'.e3, (by simp only [tyM, hpp]), ?_⟩
      refine read_part (cs := cs) (ps := ps) (z := i / 11) (y := i % 11) (n := 43) s_prop I'.len g5 g6 g7 ?_
      rw [← pick35 cs ps hi 43]
      refine ⟨pp, _, _, _, rfl, rfl, hpp, (fun e => by cases e), rfl, by rw [List.length_map, List.length_map]; omega, ?_⟩
      rw [← List.map_append]
      exact k _ _ ⟨I'.len, I'.e0, I'.e2, I'.e3, (I'.fr.up hb).up hp, by rw [upA_ne hne]; exact upA_same, upA_same⟩
  · refine iteB (c := false) (decide_eq_false (by show ¬ ((i % 11 : Nat) : Int) < 10; omega)) (iteF ?_)
    refine k _ _ ?_
    have e1 : ∀ f, pick f i = [] := fun f => by
      unfold pick
      rw [if_neg hi]
    rw [e1, e1, List.append_nil, List.append_nil]
    exact I'
end
theorem body_ok {cs ps : List Cell} {m : Nat} (h : DrawOk cs ps m) : isBodyD (.tup (cs.map cD)) = true := by
  show ((cs.map cD).all isCellD && risingD (cs.map cD) && (decide (1 ≤ (cs.map cD).length) && decide ((cs.map cD).length ≤ 200))) = true
  rw [rising_up h.up1]
  have h1 : (cs.map cD).all isCellD = true := by
    rw [List.all_eq_true]
    intro d hd
    obtain ⟨c, hc, rfl⟩ := List.mem_map.mp hd
    have h2 := h.top.2 c (List.mem_append_left _ hc)
    have h3 := h.rg c (List.mem_append_left _ hc)
    have h7 := h.m7
    simp only [cD, isCellD, isWholeD, Bool.and_eq_true, decide_eq_true_eq]
    omega
  rw [h1]
  have h2 : 1 ≤ cs.length := by
    cases hc : cs with
    | nil => exact absurd hc h.ne
    | cons _ _ => simp
  simp only [Bool.and_self, Bool.true_and, List.length_map, decide_eq_true h2, decide_eq_true h.l1]
theorem rf_cells {cs : List Cell} : rf (.tup (cs.map cD)) = true := by
  simp only [rf]
  refine all_rfs fun d hd => ?_
  obtain ⟨c, _, rfl⟩ := List.mem_map.mp hd
  rfl
theorem picks_succ (f : Cell → Bool) (n : Nat) : picks f (n + 1) = picks f n ++ pick f n := by
  unfold picks
  rw [List.range_succ, List.flatMap_append]
  simp
theorem picks_len (f : Cell → Bool) : ∀ n : Nat, (picks f n).length ≤ 10 * n
  | 0 => by simp [picks]
  | n + 1 => by
    have := picks_len f n
    have h := pick_len (f := f) (i := n)
    rw [picks_succ, List.length_append]
    omega
theorem wok_read_drawn (ds : List D) (A : SD) (Q : QD) (h : sp_read_drawn ds A Q) : ds.length = 1 ∧ W_read_drawn { nx := fun _ A' => subQ Q .non A', rt := subQ Q } (startD 11 ds) A := by
  obtain ⟨cs, ps, m, rfl, ok, q⟩ := h
  refine ⟨rfl, ?_⟩
  have hm := ok.m7
  have s0 : (0 : Nat) ≤ sizeLine := small_size (by decide)
  refine ⟨_, rfl, (by decide : ("str" : String) ≠ ""), true, k_ts.2.2.2.1, _, rfl, iteF ?_⟩
  have hspl : Txt.split (drawT cs ps m) sNl = drawL cs ps (m + 1) := by
    refine split_join tl_nl (by decide +kernel) (fun e => ?_) fun x hx => ?_
    · have := draw_length cs ps m
      rw [e] at this
      simp at this
      omega
    · rcases mem_draw hx with e | ⟨z, y, _, e⟩
      · rw [e]; decide +kernel
      · rw [e, tl_line]
        intro h
        obtain ⟨x, _, hx⟩ := List.mem_map.mp h
        rcases sig_cases cs ps ((z : Int), (y : Int), (x : Int)) with h | h | h <;> omega
  have hlen : (drawT cs ps m).length + 2 ≤ sizeLine := by
    have h1 := join_len sNl (drawL cs ps (m + 1))
    have h2 := draw_sum cs ps (m := m + 1) (by omega)
    have h3 := draw_length cs ps m
    have h4 := sum_le (fun x : Str => x.length) 10 (drawL cs ps (m + 1)) fun x hx => by
      rcases mem_draw hx with e | ⟨z, y, _, e⟩
      · rw [e]; show sDash.length ≤ 10; rw [len_dash]; decide
      · rw [e]; exact len_line cs ps z y
    rw [len_nl] at h1
    unfold drawT
    exact small_size (by omega)
  refine ⟨_, rfl, rfl, _, _, rfl, rfl, by decide +kernel, hlen, ?_⟩
  rw [hspl]
  have hL : ((drawL cs ps (m + 1)).map D.str).length = 11 * (m + 1) - 1 := by rw [List.length_map, draw_length]
  refine ⟨_, rfl, _, rfl, .inl ⟨_, rfl, (by decide : (0 : Int) < 10 + 1), rfl, rfl, _, rfl, ?_⟩⟩
  refine iteB (c := false) ?_ (iteF ?_)
  · show (!decide (D.int (((((drawL cs ps (m + 1)).map D.str).length : Nat) : Int) % (10 + 1)) = D.int 10)) = false
    rw [hL, decide_eq_true (by congr 1; omega)]
    rfl
  refine ⟨_, rfl, _, rfl, .inl ⟨_, rfl, ⟨by decide, by decide⟩, _, rfl, ?_⟩⟩
  refine iteB (c := false) (decide_eq_false (by show ¬ (7 : Int) < ((((drawL cs ps (m + 1)).map D.str).length : Nat) : Int) / (10 + 1); rw [hL]; omega)) (iteF ?_)
  refine ⟨s0, fun pb hpb => ?_⟩
  refine ⟨s0, fun pp hpp => ?_⟩
  have hne : pb ≠ pp := fun e => by rw [← e, upA_same] at hpp; cases hpp
  have hppA : A pp = none := by rw [upA_ne (fun e => hne e.symm)] at hpp; exact hpp
  refine ⟨_, _, rfl, ?_⟩
  refine ⟨_, rfl, _, (drawL cs ps (m + 1)).map D.str, rfl, rfl, (by rw [hL]; exact small_size (by omega)), fun hz => ?_⟩
  refine for_inv (fun i env B => InR A (drawT cs ps m) pb pp env B (picks (fun c => sigN cs ps c == 35) i) (picks (fun c => sigN cs ps c == 43) i)) (fun i d N hd hN env B hI => ⟨rfl, ?_⟩) (fun env B hI => ⟨rfl, ?_⟩)
    ⟨rfl, rfl, rfl, rfl, ((Fr0.refl A).up hpb).up hppA, by rw [upA_ne hne]; exact upA_same, upA_same⟩
  · rw [enumD_get, List.getElem?_map] at hd
    by_cases hi : i < 11 * (m + 1) - 1
    · rw [draw_get cs ps m i hi] at hd
      cases hd
      refine ⟨_, rfl, rfl, _, _, rfl, _, _, rfl, rfl, ?_⟩
      have p1 := picks_len (fun c => sigN cs ps c == 35) i
      have p2 := picks_len (fun c => sigN cs ps c == 43) i
      refine read_step (cs := cs) (ps := ps) (i := i) ((hI.set (i := 4) (v := some (.int (i : Nat))) (by decide)).set (i := 5) (v := some (.str _)) (by decide)) hpb hppA hne ?_ ?_ rfl (by omega) (by omega) fun env' B' J => hN _ _ ?_
      · rw [List.getElem?_set_ne (by decide), List.getElem?_set_self (by rw [hI.len]; decide)]
      · exact List.getElem?_set_self (by rw [List.length_set, hI.len]; decide)
      · rw [picks_succ, picks_succ]
        exact J
    · rw [List.getElem?_eq_none (by rw [draw_length]; omega)] at hd
      cases hd
  · rw [enumD_len, hL, picks_all ok ok.up1 (fun c hc => List.mem_append_left _ hc) (fun c => sig35), picks_all ok ok.up2 (fun c hc => List.mem_append_right _ hc) (fun c => sig43 ok.dis)] at hI
    refine ⟨_, hI.e2, _, cs.map cD, rfl, (by simp only [qv, lv, hI.b1]), _, hI.e3, _, ps.map cD, rfl, (by simp only [qv, lv, hI.b2]), small_size (show 2 ≤ 100000 by decide), ?_⟩
    have g8 : (env.set 8 (some (.tup [.tup (cs.map cD), .tup (ps.map cD)])))[8]? = some (some (.tup [.tup (cs.map cD), .tup (ps.map cD)])) := List.getElem?_set_self (by rw [hI.len]; decide)
    have g0 : (env.set 8 (some (.tup [.tup (cs.map cD), .tup (ps.map cD)])))[0]? = some (some (.str (drawT cs ps m))) := by
      rw [List.getElem?_set_ne (by decide)]; exact hI.e0
    refine ⟨_, g8, 0, rfl, .inl ⟨_, _, rfl, rfl, _, rfl, rf_cells, ?_, _, rfl, ?_⟩⟩
    · intro xs e
      have : xs = cs.map cD := (D.tup.inj e).symm
      rw [this, List.length_map]
      have := ok.l1
      exact small_size (by omega)
    · rw [body_ok ok]
      refine iteF ?_
      refine ⟨_, g8, 0, rfl, .inl ⟨_, _, rfl, rfl, _, g8, 1, rfl, .inl ⟨_, _, rfl, rfl, rfl, rfl, cs, ps, m, rfl, ok.top, by omega, by have := ok.l1; have := ok.l2; omega, ?_⟩⟩⟩
      refine ⟨_, g0, rfl, rfl, _, rfl, ?_⟩
      refine iteB (c := false) ?_ (iteF ?_)
      · show (!decide (D.str (drawT cs ps m) = D.str (drawT cs ps m))) = false
        rw [decide_eq_true rfl]
        rfl
      · exact ⟨_, g8, hI.fr.sub q⟩
end TL

/-! W51: the law of the texts. -/
namespace TL
open PySem PySem.Spec L2
theorem top_of : ∀ l : List Cell, l ≠ [] → (∀ c ∈ l, 0 ≤ c.1 ∧ c.1 ≤ 7) → ∃ m : Nat, m ≤ 7 ∧ IsTop l m
  | [], h, _ => absurd rfl h
  | [c], _, h => by
    have := h c (by simp)
    refine ⟨c.1.toNat, by omega, ⟨c, by simp, by omega⟩, fun d hd => ?_⟩
    simp at hd
    subst hd
    omega
  | c :: d :: l, _, h => by
    obtain ⟨m, hm, ⟨e, he, he2⟩, ha⟩ := top_of (d :: l) (by simp) fun x hx => h x (List.mem_cons_of_mem _ hx)
    have hc := h c (by simp)
    by_cases hcm : c.1 ≤ (m : Int)
    · exact ⟨m, hm, ⟨e, List.mem_cons_of_mem _ he, he2⟩, fun x hx => by
        rcases List.mem_cons.mp hx with rfl | hx
        · exact ⟨hc.1, hcm⟩
        · exact ha x hx⟩
    · refine ⟨c.1.toNat, by omega, ⟨c, by simp, by omega⟩, fun x hx => ?_⟩
      rcases List.mem_cons.mp hx with rfl | hx
      · omega
      · have := ha x hx
        omega
theorem row_ok {d : D} (h : isRowD d = true) : ok 15 d = true := by
  obtain ⟨s, ns, rfl, _⟩ := row_of h
  show (D.str s :: ns.map nD).all (ok 14) = true
  rw [List.all_eq_true]
  intro x hx
  rcases List.mem_cons.mp hx with e | hx
  · rw [e]; exact ok_str
  · obtain ⟨n, _, rfl⟩ := List.mem_map.mp hx
    exact ok_int
theorem rows_ok {A : SD} {rs : List D} (h : ∀ r ∈ rs, isRowD r = true) : okE (.lst rs) = true := by
  show rs.all (ok 15) = true
  rw [List.all_eq_true]
  exact fun x hx => row_ok (h x hx)
theorem vw_ref {A : SD} {p : Addr} {rs : List D} (h : A p = some (.lst rs)) : vw A (.ref p) = .lst rs := by
  simp only [vw, lw, h]
def sp_law : SpD := fun ds A Q => ∃ ns, ds = [.scr ns] ∧ ns.length ≤ 63 ∧ ∀ A', Q (.bl true) A'
-- slots: 0 _law_script 1 _law_k 2 _law_well_here 3 _law_body_here 4 _law_stays 5 _law_turn 6 _law_text 7 _law_rows 8 _law_some 9 _law_cell 10 _law_row_here
/-- _law_stays[_law_take(_ -/
noncomputable def W_law_b1 : SW :=
  (sAsg (eC (.bl true)) (gSub' (eVar 4) (eTup (aCons (eCall sp__law_take (aCons (eVar 2) (aCons (eC (.int 8)) aNil))) (aCons (eCall sp__law_take (aCons (eVar 2) (aCons (eC (.int 10)) aNil))) (aCons (eCall sp__law_take (aCons (eVar 2) (aCons (eC (.int 10)) aNil))) aNil)))) wDct))
/-- if rows_text(_law_some -/
noncomputable def W_law_b2 : SW :=
  (sIf (tOr' (tVal (eOp rNe' (eCall sp_rows_text (aCons (eVar 8) aNil)) (eCall sp__law_rows_text (aCons (eVar 8) aNil)))) (tVal (eOp rNe' (eCall sp_read_rows (aCons (eCall sp__law_rows_text (aCons (eVar 8) aNil)) aNil)) (eVar 8)))) (sRet (eC (.bl false))) sNil)
/-- for _law_some in [_law -/
noncomputable def W_law_t3 : SW :=
  (sFor (iSeq (eLst (aCons (eVar 7) (aCons (eLst aNil) (aCons (eLst (aCons (eTup (aCons (eC (.str (PySem.Str.ofString "wait"))) (aCons (eC (.int 1000)) aNil))) (aCons (eTup (aCons (eC (.str (PySem.Str.ofString "up"))) aNil)) (aCons (eTup (aCons (eC (.str (PySem.Str.ofString "go"))) (aCons (eC (.int 9)) (aCons (eC (.int 0)) aNil)))) aNil)))) aNil))))) (gVar 8)
  W_law_b2)
/-- _law_rows = [_law_row_ -/
noncomputable def W_law_t4 : SW :=
  (sSeq (sSet 7 (eLc (iSeq (eVar 7)) (gVar 10) (tVal (eCall sp__law_is_row (aCons (eVar 10) aNil))) (eVar 10) [10]))
  W_law_t3)
/-- _law_rows = [_law_row( -/
noncomputable def W_law_t5 : SW :=
  (sSeq (sSet 7 (eLc (iRng1 (aCons (eCall sp__law_take (aCons (eVar 2) (aCons (eC (.int 12)) aNil))) aNil)) (gVar 5) tYesE (eCall sp__law_row (aCons (eVar 2) aNil)) [5]))
  W_law_t4)
/-- if drawn(_law_body_her -/
noncomputable def W_law_t6 : SW :=
  (sSeq (sIf (tVal (eOp rNe' (eCallD sp_drawn dfl_drawn (aCons (eVar 3) aNil)) (eCall sp__law_drawn (aCons (eVar 3) (aCons (eTup aNil) aNil))))) (sRet (eC (.bl false))) sNil)
  W_law_t5)
/-- if drawn(_law_body_her -/
noncomputable def W_law_t7 : SW :=
  (sSeq (sIf (tOr' (tVal (eOp rNe' (eCallK sp_drawn 1 1 (fun a b => a ++ b) (aCons (eVar 3) aNil) (aCons (eVar 4) aNil)) (eVar 6))) (tVal (eOp rNe' (eCall sp_read_drawn (aCons (eVar 6) aNil)) (eTup (aCons (eVar 3) (aCons (eVar 4) aNil)))))) (sRet (eC (.bl false))) sNil)
  W_law_t6)
/-- _law_text = _law_drawn -/
noncomputable def W_law_t8 : SW :=
  (sSeq (sSet 6 (eCall sp__law_drawn (aCons (eVar 3) (aCons (eVar 4) aNil))))
  W_law_t7)
/-- _law_stays = tuple(sor -/
noncomputable def W_law_t9 : SW :=
  (sSeq (sSet 4 (eCall rTup (aCons (eCall rSort (aCons (eLock (eLc (TL.iKeys (eVar 4)) (gVar 9) (tVal (eOp rNotIn' (eVar 9) (eVar 3))) (eVar 9) [9])) aNil)) aNil)))
  W_law_t8)
/-- for _law_turn in range -/
noncomputable def W_law_t10 : SW :=
  (sSeq (sFor (iRng1 (aCons (eCall sp__law_take (aCons (eVar 2) (aCons (eC (.int 9)) aNil))) aNil)) (gVar 5)
  W_law_b1)
  W_law_t9)
/-- _law_body_here, _law_s -/
noncomputable def W_law_t11 : SW :=
  (sSeq (sAsg (eTup (aCons (eCall sp__law_body (aCons (eVar 2) (aCons (eOp rIdx (eLst (aCons (eC (.int 3)) (aCons (eC (.int 8)) aNil))) (eCall sp__law_take (aCons (eVar 2) (aCons (eC (.int 2)) aNil)))) aNil))) (aCons eDctNew aNil))) (gTup' 2 (gsCons (gVar 3) (gsCons (gVar 4) gsNil))))
  W_law_t10)
/-- _law_well_here = _law_ -/
noncomputable def W_law_b12 : SW :=
  (sSeq (sSet 2 (eCall sp__law_well (aCons (eVar 0) (aCons (eVar 1) aNil))))
  W_law_t11)
/-- return True -/
noncomputable def W_law_t13 : SW :=
  (sRet (eC (.bl true)))
noncomputable def W_law : SW :=
  (sSeq (sFor (iRng1 (aCons (eCall rMax2 (aCons (eC (.int 6)) (aCons (eCall rMin2 (aCons (eC (.int 40)) (aCons (eCall rLen (aCons (eVar 0) aNil)) aNil))) aNil))) aNil)) (gVar 1)
  W_law_b12)
  W_law_t13)
section
variable {A : SD} {De : EndD} {ns : List Int} {env : ED} {N : ED → SD → Prop}
theorem law_b2 {rs : List D} (e8 : env[8]? = some (some (.lst rs))) (hr : ∀ r ∈ rs, isRowD r = true) (hl : rs.length ≤ 100000) (k : ∀ A', N env A') : W_law_b2 { nx := N, rt := De.rt, bk := De.nx, ct := N } env A := by
  refine ⟨_, e8, _, rs, rfl, rfl, hr, hl, _, e8, _, rs, rfl, rfl, hr, hl, rfl, rfl, _, rfl, ?_⟩
  refine iteB (c := false) ?_ (iteF ?_)
  · show (!decide (D.str (rowsT rs) = D.str (rowsT rs))) = false
    rw [decide_eq_true rfl]
    rfl
  · refine ⟨_, e8, _, rs, rfl, rfl, hr, hl, rs, rfl, hr, hl, fun p hp => ⟨_, e8, ?_, ?_, _, rfl, ?_⟩⟩
    · rw [vw_ref upA_same]; exact rows_ok (A := A) hr
    · exact rows_ok (A := A) hr
    · refine iteB (c := false) ?_ (iteF (k _))
      have e : vw (upA A p (.lst rs)) (.ref p) = vw (upA A p (.lst rs)) (.lst rs) := vw_ref upA_same
      rw [decide_eq_true e]
      rfl
structure InL (ns : List Int) (env : ED) : Prop where
  len : env.length = 11
  e0 : env[0]? = some (some (.scr ns))
theorem InL.set (h : InL ns env) {i : Nat} {v : Option D} (hi : 1 ≤ i) : InL ns (env.set i v) := ⟨by rw [List.length_set]; exact h.len, by rw [List.getElem?_set_ne (by omega)]; exact h.e0⟩
theorem law_t3 {rs : List D} (I : InL ns env) (e7 : env[7]? = some (some (.lst rs))) (hr : ∀ r ∈ rs, isRowD r = true) (hl : rs.length ≤ 100000) (k : ∀ env' A', InL ns env' → N env' A') : W_law_t3 { nx := N, rt := De.rt, bk := De.nx, ct := N } env A := by
  have s1 : (1 : Nat) ≤ sizeLine := small_size (by decide)
  have s2 : (2 : Nat) ≤ sizeLine := small_size (by decide)
  have s3 : (3 : Nat) ≤ sizeLine := small_size (by decide)
  refine ⟨_, e7, small_size (show 0 ≤ 100000 by decide), s2, s1, s3, s3, s3, _, rfl, fun hz => ?_⟩
  refine for_inv (fun i env B => InL ns env) (fun i d N' hd hN env B hI => ⟨rfl, ?_⟩) (fun env B hI => ⟨rfl, k env B hI⟩) I
  have g : ∀ rs', d = .lst rs' → (∀ r ∈ rs', isRowD r = true) → rs'.length ≤ 100000 → gVar 8 d env B fun env1 A1 => W_law_b2 { nx := N', rt := De.rt, bk := N, ct := N' } env1 A1 := fun rs' e h1 h2 => by
    subst e
    exact law_b2 (De := { nx := N, rt := De.rt }) (List.getElem?_set_self (by rw [hI.len]; decide)) h1 h2 fun A' => hN _ _ (hI.set (by decide))
  match i, hd with
  | 0, hd =>
    cases hd
    exact g rs rfl hr hl
  | 1, hd =>
    cases hd
    exact g [] rfl (fun r h => by cases h) (by simp)
  | 2, hd =>
    cases hd
    refine g _ rfl (fun r h => ?_) (by simp)
    simp only [List.mem_cons, List.not_mem_nil, or_false] at h
    rcases h with h | h | h <;> rw [h] <;> decide +kernel
  | i + 3, hd => simp at hd
theorem law_t4 {rs : List D} (I : InL ns env) (e7 : env[7]? = some (some (.lst rs))) (hr : ∀ r ∈ rs, rf r = true ∧ ∀ xs, r = .tup xs → xs.length ≤ 3) (hl : rs.length ≤ 1000) (k : ∀ env' A', InL ns env' → N env' A') : W_law_t4 { nx := N, rt := De.rt, bk := De.nx, ct := N } env A := by
  refine ⟨_, e7, rs, rfl, fun hz => ?_⟩
  refine lc_pure (f := fun d => if isRowD d = true then some d else none) hz ?_ ?_ ?_
  · exact fun _ _ _ => rfl
  · intro p hp d hd acc Qy Qn h
    have g10 : ((wipeE env [10]).set 10 (some d))[10]? = some (some d) := List.getElem?_set_self (by rw [wipeE_length, I.len]; decide)
    refine ⟨_, g10, d, rfl, (hr d hd).1, fun xs e => by have := (hr d hd).2 xs e; omega, _, rfl, ?_⟩
    cases e : isRowD d with
    | true =>
      refine iteT ⟨_, g10, ?_⟩
      simpa [e] using h
    | false =>
      refine iteF ?_
      simpa [e] using h
  · intro p hp
    rw [drop_upA hp]
    refine law_t3 (I.set (by decide)) (List.getElem?_set_self (by rw [I.len]; decide)) (fun r h => ?_) ?_ k
    · obtain ⟨d, hd, he⟩ := List.mem_filterMap.mp h
      split at he
      · cases he; assumption
      · cases he
    · exact Nat.le_trans (List.length_filterMap_le _ _) (by omega)
theorem law_t5 {q : Addr} (I : InL ns env) (e2 : env[2]? = some (some (.ref q))) (hw : WellAt A q) (k : ∀ env' A', InL ns env' → N env' A') : W_law_t5 { nx := N, rt := De.rt, bk := De.nx, ct := N } env A := by
  refine ⟨_, e2, q, 12, rfl, hw, by decide, by decide, fun m B m0 m1 w1 o1 => ?_⟩
  refine ⟨m, rfl, by omega, small_size (by omega), fun hz p hp => ?_⟩
  have hqp : q ≠ p := w1.ne hp
  refine lc_inv (fun i acc C => C p = some (.lst acc) ∧ WellAt C q ∧ ∀ d ∈ acc, rf d = true ∧ ∀ xs, d = .tup xs → xs.length ≤ 3) (fun i acc C h => h.1) hz (fun i d acc C Ny Nn hd hI hy hn => ⟨trivial, ?_⟩) (fun acc C hI hlen => ⟨trivial, ?_⟩) ⟨upA_same, w1.up hqp, fun d h => by cases h⟩
  · obtain ⟨h1, h2, h3⟩ := hI
    simp only [w_gvar, w_yes, ↓reduceIte]
    refine ⟨_, ?_, q, rfl, h2, fun y C' hy1 hy2 w2 o2 => ?_⟩
    · rw [List.getElem?_set_ne (by decide), wipeE_get (by simp)]
      exact e2
    · refine hy y C' (by rw [o2 p (fun e => hqp e.symm)]; exact h1) ⟨upA_same, w2.up hqp, fun d hd => ?_⟩
      rcases List.mem_append.mp hd with hd | hd
      · exact h3 d hd
      · simp at hd
        rw [hd]; exact ⟨hy1, hy2⟩
  · rw [intsD_len] at hlen
    exact law_t4 (I.set (by decide)) (List.getElem?_set_self (by rw [I.len]; decide)) hI.2.2 (by omega) k
theorem law_t6 {q : Addr} {hi : Int} {cs : List Cell} (I : InL ns env) (e2 : env[2]? = some (some (.ref q))) (e3 : env[3]? = some (some (.tup (cs.map cD)))) (hb : BodyC hi cs) (hhi : hi ≤ 8) (hw : WellAt A q) (k : ∀ env' A', InL ns env' → N env' A') : W_law_t6 { nx := N, rt := De.rt, bk := De.nx, ct := N } env A := by
  obtain ⟨m, hm, ht⟩ := top_of (cs ++ []) (by rw [List.append_nil]; exact hb.ne) (fun c hc => by
    rw [List.append_nil] at hc
    have := hb.rg c hc
    omega)
  have hl := hb.le
  refine ⟨_, e3, cs, [], m, rfl, ht, by omega, by simp; omega, _, e3, small_size (show 0 ≤ 100000 by decide), cs, [], m, rfl, ht, by omega, by simp; omega, rfl, rfl, _, rfl, ?_⟩
  refine iteB (c := false) ?_ (iteF ?_)
  · show (!decide (D.str (drawT cs [] m) = D.str (drawT cs [] m))) = false
    rw [decide_eq_true rfl]
    rfl
  · exact law_t5 I e2 hw k
theorem law_t8 {q : Addr} {hi : Int} {cs ps : List Cell} (I : InL ns env) (e2 : env[2]? = some (some (.ref q))) (e3 : env[3]? = some (some (.tup (cs.map cD)))) (e4 : env[4]? = some (some (.tup (ps.map cD)))) (hb : BodyC hi cs) (hhi : hi ≤ 8) (hp1 : ps.Pairwise CLt) (hp2 : ∀ c ∈ ps, c ∉ cs) (hp3 : ps.length ≤ 10000)
    (hp4 : ∀ c ∈ ps, 0 ≤ c.1 ∧ c.1 < 8 ∧ 0 ≤ c.2.1 ∧ c.2.1 < 10 ∧ 0 ≤ c.2.2 ∧ c.2.2 < 10) (hw : WellAt A q) (k : ∀ env' A', InL ns env' → N env' A') : W_law_t8 { nx := N, rt := De.rt, bk := De.nx, ct := N } env A := by
  obtain ⟨m, hm, ht⟩ := top_of (cs ++ ps) (by simp [hb.ne]) (fun c hc => by
    rcases List.mem_append.mp hc with hc | hc
    · have := hb.rg c hc
      omega
    · have := hp4 c hc
      omega)
  have hl := hb.le
  have ok : DrawOk cs ps m := ⟨hb.up, hp1, fun c h h' => hp2 c h' h, hb.ne, by omega, hp3, ht, hm, fun c hc => by
    rcases List.mem_append.mp hc with hc | hc
    · have := hb.rg c hc
      omega
    · have := hp4 c hc
      omega⟩
  refine ⟨_, e3, _, e4, cs, ps, m, rfl, ht, by omega, by omega, ?_⟩
  have g : ∀ i : Nat, i ≠ 6 → (env.set 6 (some (.str (drawT cs ps m))))[i]? = env[i]? := fun i h => List.getElem?_set_ne (fun e => h e.symm)
  have g6 : (env.set 6 (some (.str (drawT cs ps m))))[6]? = some (some (.str (drawT cs ps m))) := List.getElem?_set_self (by rw [I.len]; decide)
  refine ⟨_, (g 3 (by decide)).trans e3, _, (g 4 (by decide)).trans e4, rfl, rfl, cs, ps, m, rfl, ht, by omega, by omega, _, g6, rfl, rfl, _, rfl, ?_⟩
  refine iteB (c := false) ?_ (iteF ?_)
  · show (!decide (D.str (drawT cs ps m) = D.str (drawT cs ps m))) = false
    rw [decide_eq_true rfl]
    rfl
  · have ok2 : okE (.tup [.tup (cs.map cD), .tup (ps.map cD)]) = true := by
      show [D.tup (cs.map cD), D.tup (ps.map cD)].all (TL.ok 15) = true
      simp only [List.all_cons, List.all_nil, ok_tup, ok_cDs, Bool.and_self]
    refine ⟨_, g6, cs, ps, m, rfl, ok, _, (g 3 (by decide)).trans e3, _, (g 4 (by decide)).trans e4, small_size (show 2 ≤ 100000 by decide), ok2, ok2, _, rfl, ?_⟩
    refine iteB (c := false) ?_ (iteF ?_)
    · rw [decide_eq_true (show vw A (.tup [.tup (cs.map cD), .tup (ps.map cD)]) = vw A (.tup [.tup (cs.map cD), .tup (ps.map cD)]) from rfl)]
      rfl
    · exact law_t6 (I.set (by decide)) ((g 2 (by decide)).trans e2) ((g 3 (by decide)).trans e3) hb hhi hw k
theorem filt_tr (cs : List Cell) (ss : List Cell) : (ss.map cD).filterMap (fun d => if d ∈ cs.map cD then none else some d) = (ss.filter fun c => decide (c ∉ cs)).map cD := by
  induction ss with
  | nil => rfl
  | cons c ss ih =>
    rw [List.map_cons, List.filterMap_cons, List.filter_cons]
    have hm : cD c ∈ cs.map cD ↔ c ∈ cs := by
      have := mem_cD (c := c) (cs := cs)
      constructor
      · intro h; rw [decide_eq_true h] at this; exact of_decide_eq_true this.symm
      · intro h; exact List.mem_map_of_mem h
    by_cases h : c ∈ cs
    · have h' := hm.mpr h
      simp only [h', if_true, h, not_true_eq_false, decide_false]
      simpa using ih
    · have h' : ¬ cD c ∈ cs.map cD := fun e => h (hm.mp e)
      simp only [h', if_false, h, not_false_eq_true, decide_true, if_true, List.map_cons]
      rw [ih]
theorem law_t9 {q p : Addr} {hi : Int} {cs ss : List Cell} (I : InL ns env) (e2 : env[2]? = some (some (.ref q))) (e3 : env[3]? = some (some (.tup (cs.map cD)))) (e4 : env[4]? = some (some (.ref p))) (hb : BodyC hi cs) (hhi : hi ≤ 8) (hA : A p = some (.dct (ss.map tr))) (hs1 : ss.Nodup) (hs2 : ss.length ≤ 1000)
    (hs3 : ∀ c ∈ ss, 0 ≤ c.1 ∧ c.1 < 8 ∧ 0 ≤ c.2.1 ∧ c.2.1 < 10 ∧ 0 ≤ c.2.2 ∧ c.2.2 < 10) (hw : WellAt A q) (hqp : q ≠ p) (k : ∀ env' A', InL ns env' → N env' A') : W_law_t9 { nx := N, rt := De.rt, bk := De.nx, ct := N } env A := by
  refine ⟨p, _, _, hA, .dct _, ?_⟩
  refine ⟨_, e4, p, _, rfl, upA_same, (by rw [List.length_map]; exact small_size (by omega)), fun hz => ?_⟩
  rw [tr_keys]
  refine lc_pure (f := fun d => if d ∈ cs.map cD then none else some d) (by rw [List.length_map]; exact small_size (by omega)) ?_ ?_ ?_
  · intro l acc hl
    exact up_ne_none hl upA_same
  · intro l hl d hd acc Qy Qn h
    obtain ⟨c, hc, rfl⟩ := List.mem_map.mp hd
    have g9 : ((wipeE env [9]).set 9 (some (cD c)))[9]? = some (some (cD c)) := List.getElem?_set_self (by rw [wipeE_length, I.len]; decide)
    have g3 : ((wipeE env [9]).set 9 (some (cD c)))[3]? = some (some (.tup (cs.map cD))) := by
      rw [List.getElem?_set_ne (by decide), wipeE_get (by simp)]; exact e3
    refine ⟨_, g9, _, g3, _, rfl, rfl, ok_cDs, _, rfl, ?_⟩
    by_cases hm : cD c ∈ cs.map cD
    · refine iteB (c := false) (by rw [decide_eq_true hm]; rfl) (iteF ?_)
      simpa [hm] using h
    · refine iteB (c := true) (by rw [decide_eq_false hm]; rfl) (iteT ⟨_, g9, ?_⟩)
      simpa [hm] using h
  · intro l hl
    rw [drop_upA hl, filt_tr]
    refine ⟨_, _, rfl, rfl, sok_cD _, ?_⟩
    refine ⟨_, _, rfl, rfl, ?_⟩
    rw [sortD_cD]
    have hperm := sortC_perm (ss.filter fun c => decide (c ∉ cs))
    refine law_t8 (ps := sortC (ss.filter fun c => decide (c ∉ cs))) (I.set (by decide)) (by rw [List.getElem?_set_ne (by decide)]; exact e2) (by rw [List.getElem?_set_ne (by decide)]; exact e3) (List.getElem?_set_self (by rw [I.len]; decide)) hb hhi (sortC_up (hs1.filter _)) (fun c hc => ?_) ?_ (fun c hc => ?_) ((hw.up hqp).up hqp) k
    · have := List.mem_filter.mp (hperm.mem_iff.mp hc)
      exact of_decide_eq_true this.2
    · rw [hperm.length_eq]
      exact Nat.le_trans (List.length_filter_le _ _) (by omega)
    · exact hs3 c (List.mem_filter.mp (hperm.mem_iff.mp hc)).1
theorem law_t10 {q p : Addr} {hi : Int} {cs : List Cell} (I : InL ns env) (e2 : env[2]? = some (some (.ref q))) (e3 : env[3]? = some (some (.tup (cs.map cD)))) (e4 : env[4]? = some (some (.ref p))) (hb : BodyC hi cs) (hhi : hi ≤ 8) (hA : A p = some (.dct [])) (hw : WellAt A q) (hqp : q ≠ p)
    (k : ∀ env' A', InL ns env' → N env' A') : W_law_t10 { nx := N, rt := De.rt, bk := De.nx, ct := N } env A := by
  refine ⟨_, e2, q, 9, rfl, hw, by decide, by decide, fun m B m0 m1 w1 o1 => ?_⟩
  refine ⟨m, rfl, by omega, small_size (by omega), fun hz => ?_⟩
  refine for_inv (fun i env C => InL ns env ∧ env[2]? = some (some (.ref q)) ∧ env[3]? = some (some (.tup (cs.map cD))) ∧ env[4]? = some (some (.ref p)) ∧ WellAt C q ∧ ∃ ss : List Cell, C p = some (.dct (ss.map tr)) ∧ ss.Nodup ∧ ss.length ≤ i ∧ ∀ c ∈ ss, 0 ≤ c.1 ∧ c.1 < 8 ∧ 0 ≤ c.2.1 ∧ c.2.1 < 10 ∧ 0 ≤ c.2.2 ∧ c.2.2 < 10)
    (fun i d N' hd hN env C hI => ⟨trivial, ?_⟩) (fun env C hI => ⟨trivial, ?_⟩) ⟨I, e2, e3, e4, w1, [], by rw [o1 p (fun e => hqp e.symm)]; exact hA, .nil, by simp, fun c h => by cases h⟩
  · obtain ⟨J, f2, f3, f4, w, ss, s1, s2, s3, s4⟩ := hI
    obtain ⟨hi', rfl⟩ := intsD_get hd
    have f2' : (env.set 5 (some (D.int (0 + (i : Nat) * 1))))[2]? = some (some (.ref q)) := by rw [List.getElem?_set_ne (by decide)]; exact f2
    have f4' : (env.set 5 (some (D.int (0 + (i : Nat) * 1))))[4]? = some (some (.ref p)) := by rw [List.getElem?_set_ne (by decide)]; exact f4
    refine ⟨_, f4', _, f2', q, 8, rfl, w, by decide, by decide, fun z C1 z0 z1 w1 o1 => ?_⟩
    refine ⟨_, f2', q, 10, rfl, w1, by decide, by decide, fun y C2 y0 y1 w2 o2 => ?_⟩
    refine ⟨_, f2', q, 10, rfl, w2, by decide, by decide, fun x C3 x0 x1 w3 o3 => ?_⟩
    have h3 : C3 p = some (.dct (ss.map tr)) := by rw [o3 p (fun e => hqp e.symm), o2 p (fun e => hqp e.symm), o1 p (fun e => hqp e.symm)]; exact s1
    refine ⟨small_size (show 3 ≤ 100000 by decide), p, ss.map tr, rfl, h3, rfl, (by rw [List.length_map]; have hs : (sizeLine : Nat) = 16777216 := sizeLine_eq; omega), ?_⟩
    have ep : putD (ss.map tr) (.tup [.int z, .int y, .int x]) (.bl true) = (addC ss (z, y, x)).map tr := put_tr ss (z, y, x)
    rw [ep]
    have l := addC_len ss (z, y, x)
    refine hN _ _ ⟨J.set (by decide), f2', by rw [List.getElem?_set_ne (by decide)]; exact f3, f4', w3.up hqp, addC ss (z, y, x), upA_same, ?_, by omega, fun c hc => ?_⟩
    · unfold addC
      split
      · exact s2
      · rename_i hn
        refine List.nodup_append.mpr ⟨s2, by simp, fun a ha b hb => ?_⟩
        simp at hb
        subst hb
        exact fun e => hn (e ▸ ha)
    · unfold addC at hc
      split at hc
      · exact s4 c hc
      · rcases List.mem_append.mp hc with hc | hc
        · exact s4 c hc
        · simp at hc
          subst hc
          exact ⟨z0, z1, y0, y1, x0, x1⟩
  · rw [intsD_len] at hI
    obtain ⟨J, f2, f3, f4, w, ss, s1, s2, s3, s4⟩ := hI
    exact law_t9 J f2 f3 f4 hb hhi s1 s2 (by omega) s4 w hqp k
theorem law_turn {i : Nat} (I : InL ns env) (e1 : env[1]? = some (some (.int (i : Nat)))) (hi : i < 1000) (k : ∀ env' A', InL ns env' → N env' A') : W_law_b12 { nx := N, rt := De.rt, bk := De.nx, ct := N } env A := by
  refine ⟨_, I.e0, _, e1, ns, i, rfl, hi, fun q B hq hw ho => ?_⟩
  have g2 : (env.set 2 (some (.ref q)))[2]? = some (some (.ref q)) := List.getElem?_set_self (by rw [I.len]; decide)
  refine ⟨_, g2, small_size (show 2 ≤ 100000 by decide), _, g2, q, 2, rfl, hw, by decide, by decide, fun b B1 b0 b1 w1 o1 => ?_⟩
  have hat : ∃ hi : Int, atI [D.int 3, .int 8] b = some (.int hi) ∧ 0 < hi ∧ hi ≤ 8 := by
    obtain ⟨n, rfl⟩ : ∃ n : Nat, b = n := ⟨b.toNat, by omega⟩
    match n, (by omega : n < 2) with
    | 0, _ => exact ⟨3, rfl, by decide, by decide⟩
    | 1, _ => exact ⟨8, rfl, by decide, by decide⟩
  obtain ⟨hi', ha, h1, h2⟩ := hat
  refine ⟨b, rfl, .inl ⟨_, _, rfl, ha, q, hi', rfl, w1, h1, h2, fun cs B2 hb w2 fr => fun p hp => ?_⟩⟩
  have hqp : q ≠ p := w2.ne hp
  refine ⟨small_size (show 2 ≤ 100000 by decide), _, rfl, rfl, _, _, rfl, _, _, rfl, rfl, ?_⟩
  refine law_t10 (cs := cs) (((I.set (by decide)).set (by decide)).set (by decide)) ?_ ?_ (List.getElem?_set_self (by rw [List.length_set, List.length_set, I.len]; decide)) hb h2 upA_same (w2.up hqp) hqp k
  · rw [List.getElem?_set_ne (by decide), List.getElem?_set_ne (by decide)]; exact g2
  · rw [List.getElem?_set_ne (by decide), List.getElem?_set_self (by rw [List.length_set, I.len]; decide)]
end
theorem wok_law (ds : List D) (A : SD) (Q : QD) (h : sp_law ds A Q) : ds.length = 1 ∧ W_law { nx := fun _ A' => Q .non A', rt := Q } (startD 11 ds) A := by
  obtain ⟨ns, rfl, hl, q⟩ := h
  refine ⟨rfl, ?_⟩
  refine ⟨_, rfl, _, rfl, .inl ⟨ns.map .int, rfl, _, _, rfl, _, _, rfl, ?_⟩⟩
  rw [List.length_map]
  refine ⟨_, rfl, ?_, ?_, fun hz => ?_⟩
  · omega
  · exact small_size (by omega)
  refine for_inv (fun i env C => InL ns env) (fun i d N' hd hN env C hI => ⟨trivial, ?_⟩) (fun env C hI => ⟨trivial, ?_⟩) ⟨rfl, rfl⟩
  · obtain ⟨hi, rfl⟩ := intsD_get hd
    have hi2 : i < 1000 := by omega
    have ei : (0 : Int) + (i : Nat) * 1 = (i : Nat) := by omega
    rw [ei]
    exact law_turn (hI.set (by decide)) (List.getElem?_set_self (by rw [hI.len]; decide)) hi2 fun env' A' J => hN _ _ J
  · exact q C
end TL

/-! The walk of k51: each def by its text, then the head. -/
namespace TL
open PySem PySem.Spec L2
def topS (i : Nat) : Stmt := PySem.Challenge.pw_layerbody_k51_whole_texts_there_and_back.main.body.getD i (.Pass ⟨0, 0, 0, 0⟩)
section
variable {P : Program} {w : World} {K : PySem.W.Frag} {mg : Str → Option Value} {base : Heap}
abbrev s_is_int : Stmt := topS 4
theorem sc_is_int : FnScope ["thing"] ["thing"] (defScope s_is_int) := ⟨rfl, rfl, rfl, by decide +kernel, rfl, by decide +kernel, by decide +kernel⟩
theorem ok_is_int {f : Addr} {fd : FuncData} {dvs : List V} {kws : List (Str × V)} (F : FunD K "is_int" "is_int" (defArgs s_is_int) (defBody s_is_int) (defScope s_is_int) dvs kws f fd) (n_isinstance : mg "isinstance" = none) (n_bool : mg "bool" = none) (n_int : mg "int" = none) : FnOk P w K mg base CX0 1 f fd ["thing"] (lSp0 P w K sp_is_int) := by
  refine def_ok (W := W_is_int) F sc_is_int (fun ds A Q h => wok_is_int ds A Q h) fun cdv A outer s H E hr => ?_
  have hu := hr.units
  exact (xs1 (xret (xvand (xisi (by rfl) n_isinstance bo_isinstance (by rfl) n_int bo_int (xv 0)) (xv1 (xvnot (xisi (by rfl) n_isinstance bo_isinstance (by rfl) n_bool bo_bool (xv 0)))))))
abbrev s_is_whole : Stmt := topS 5
theorem sc_is_whole : FnScope ["thing", "low", "high"] ["thing", "low", "high"] (defScope s_is_whole) := ⟨rfl, rfl, rfl, by decide +kernel, rfl, by decide +kernel, by decide +kernel⟩
theorem ok_is_whole {f : Addr} {fd : FuncData} {dvs : List V} {kws : List (Str × V)} (F : FunD K "is_whole" "is_whole" (defArgs s_is_whole) (defBody s_is_whole) (defScope s_is_whole) dvs kws f fd) (c_is_int : Cal P w K mg base "is_int" 1 ["thing"] sp_is_int) : FnOk P w K mg base CX0 2 f fd ["thing", "low", "high"] (lSp0 P w K sp_is_whole) := by
  obtain ⟨f_is_int, fd_is_int, m_is_int, F_is_int, k_is_int, b_is_int⟩ := c_is_int
  refine def_ok (W := W_is_whole) F sc_is_whole (fun ds A Q h => wok_is_whole ds A Q h) fun cdv A outer s H E hr => ?_
  have hu := hr.units
  exact (xs1 (xret (xvand (xcall F_is_int (hr.mono (by decide)) (by rfl) m_is_int k_is_int b_is_int (xa (xv 0) xa0)) (xv1 (xchain o_le o_le (xv 1) (xv 0) (xv 2))))))
abbrev s_is_tuple : Stmt := topS 6
theorem sc_is_tuple : FnScope ["thing", "many"] ["thing", "many"] (defScope s_is_tuple) := ⟨rfl, rfl, rfl, by decide +kernel, rfl, by decide +kernel, by decide +kernel⟩
theorem ok_is_tuple {f : Addr} {fd : FuncData} {dvs : List V} {kws : List (Str × V)} (F : FunD K "is_tuple" "is_tuple" (defArgs s_is_tuple) (defBody s_is_tuple) (defScope s_is_tuple) dvs kws f fd) (n_len : mg "len" = none) (n_isinstance : mg "isinstance" = none) (n_tuple : mg "tuple" = none) : FnOk P w K mg base CX0 1 f fd ["thing", "many"] (lSp0 P w K sp_is_tuple) := by
  refine def_ok (W := W_is_tuple) F sc_is_tuple (fun ds A Q h => wok_is_tuple ds A Q h) fun cdv A outer s H E hr => ?_
  have hu := hr.units
  exact (xs1 (xret (xvand (xisi (by rfl) n_isinstance bo_isinstance (by rfl) n_tuple bo_tuple (xv 0)) (xv1 (xcmp (o_eq hu) (xblt c_len (by rfl) n_len bo_len (xa (xv 0) xa0)) (xv 1) (by rfl))))))
abbrev s_rising : Stmt := topS 7
theorem sc_rising : FnScope ["some", "k"] ["some"] (defScope s_rising) := ⟨rfl, rfl, rfl, by decide +kernel, rfl, by decide +kernel, by decide +kernel⟩
theorem ok_rising {f : Addr} {fd : FuncData} {dvs : List V} {kws : List (Str × V)} (F : FunD K "rising" "rising" (defArgs s_rising) (defBody s_rising) (defScope s_rising) dvs kws f fd) (n_all : mg "all" = none) (n_range : mg "range" = none) (n_len : mg "len" = none) : FnOk P w K mg base CX0 1 f fd ["some"] (lSp0 P w K sp_rising) := by
  refine def_ok (W := W_rising) F sc_rising (fun ds A Q h => wok_rising ds A Q h) fun cdv A outer s H E hr => ?_
  have hu := hr.units
  exact (xs1 (xret (xblt (c_all rfl) (by rfl) n_all bo_all (xa (xlc rfl sc_rising.nd (xirng1 (by rfl) n_range (xa (xop o_sub (xblt c_len (by rfl) n_len bo_len (xa (xv 0) xa0)) xi) xa0)) (blkOk_by (own := [("k", 1)]) (by kernel_rfl)) (fun _ _ _ _ _ => (xg (i := 1) sc_rising.nd rfl (Or.inl rfl))) (fun _ _ _ _ _ => xt0) (fun _ _ _ _ _ => (xcmp (o_ltD hu) (xix ix_any (xv 0) (xv 1)) (xix ix_any (xv 0) (xop o_add (xv 1) xi)) (by rfl))) (by decide)) xa0))))
abbrev s_is_cell : Stmt := topS 8
theorem sc_is_cell : FnScope ["thing"] ["thing"] (defScope s_is_cell) := ⟨rfl, rfl, rfl, by decide +kernel, rfl, by decide +kernel, by decide +kernel⟩
theorem ok_is_cell {f : Addr} {fd : FuncData} {dvs : List V} {kws : List (Str × V)} (F : FunD K "is_cell" "is_cell" (defArgs s_is_cell) (defBody s_is_cell) (defScope s_is_cell) dvs kws f fd) (c_is_whole : Cal P w K mg base "is_whole" 2 ["thing", "low", "high"] sp_is_whole) (c_is_tuple : Cal P w K mg base "is_tuple" 1 ["thing", "many"] sp_is_tuple) (cg_TOP : ConG mg "TOP" c_TOP) (cg_EDGE : ConG mg "EDGE" c_EDGE) : FnOk P w K mg base CX0 3 f fd ["thing"] (lSp0 P w K sp_is_cell) := by
  obtain ⟨f_is_whole, fd_is_whole, m_is_whole, F_is_whole, k_is_whole, b_is_whole⟩ := c_is_whole
  obtain ⟨f_is_tuple, fd_is_tuple, m_is_tuple, F_is_tuple, k_is_tuple, b_is_tuple⟩ := c_is_tuple
  obtain ⟨u_TOP, v_TOP, g_TOP, r_TOP, t_TOP⟩ := cg_TOP
  obtain ⟨u_EDGE, v_EDGE, g_EDGE, r_EDGE, t_EDGE⟩ := cg_EDGE
  refine def_ok (W := W_is_cell) F sc_is_cell (fun ds A Q h => wok_is_cell ds A Q h) fun cdv A outer s H E hr => ?_
  have hu := hr.units
  exact (xsc (xsif (xwp (xo (xnot (xtv (xcall F_is_tuple (hr.mono (by decide)) (by rfl) m_is_tuple k_is_tuple b_is_tuple (xa (xv 0) (xa xi xa0))))) (xo1 (xnot (xtv (xcall F_is_whole (hr.mono (by decide)) (by rfl) m_is_whole k_is_whole b_is_whole (xa (xix ix_any (xv 0) xi) (xa xi (xa (xglob (by rfl) g_TOP r_TOP (t_TOP _)) xa0))))))))) (xs1 (xret xb)) xs0)
  (xs1 (xret (xvand (xcall F_is_whole (hr.mono (by decide)) (by rfl) m_is_whole k_is_whole b_is_whole (xa (xix ix_any (xv 0) xi) (xa xi (xa (xglob (by rfl) g_EDGE r_EDGE (t_EDGE _)) xa0)))) (xv1 (xcall F_is_whole (hr.mono (by decide)) (by rfl) m_is_whole k_is_whole b_is_whole (xa (xix ix_any (xv 0) xi) (xa xi (xa (xglob (by rfl) g_EDGE r_EDGE (t_EDGE _)) xa0)))))))))
abbrev s_are_cells : Stmt := topS 9
theorem sc_are_cells : FnScope ["thing", "one"] ["thing"] (defScope s_are_cells) := ⟨rfl, rfl, rfl, by decide +kernel, rfl, by decide +kernel, by decide +kernel⟩
theorem ok_are_cells {f : Addr} {fd : FuncData} {dvs : List V} {kws : List (Str × V)} (F : FunD K "are_cells" "are_cells" (defArgs s_are_cells) (defBody s_are_cells) (defScope s_are_cells) dvs kws f fd) (c_rising : Cal P w K mg base "rising" 1 ["some"] sp_rising) (c_is_cell : Cal P w K mg base "is_cell" 3 ["thing"] sp_is_cell) (n_all : mg "all" = none) (n_isinstance : mg "isinstance" = none) (n_tuple : mg "tuple" = none) : FnOk P w K mg base CX0 4 f fd ["thing"] (lSp0 P w K sp_are_cells) := by
  obtain ⟨f_rising, fd_rising, m_rising, F_rising, k_rising, b_rising⟩ := c_rising
  obtain ⟨f_is_cell, fd_is_cell, m_is_cell, F_is_cell, k_is_cell, b_is_cell⟩ := c_is_cell
  refine def_ok (W := W_are_cells) F sc_are_cells (fun ds A Q h => wok_are_cells ds A Q h) fun cdv A outer s H E hr => ?_
  have hu := hr.units
  exact (xs1 (xret (xvand (xisi (by rfl) n_isinstance bo_isinstance (by rfl) n_tuple bo_tuple (xv 0)) (xvand (xblt (c_all rfl) (by rfl) n_all bo_all (xa (xlc rfl sc_are_cells.nd (xiseq (xv 0)) (blkOk_by (own := [("one", 1)]) (by kernel_rfl)) (fun _ _ _ _ _ => (xg (i := 1) sc_are_cells.nd rfl (Or.inl rfl))) (fun _ _ _ _ _ => xt0) (fun _ _ _ _ _ => (xcall F_is_cell (hr.mono (by decide)) (by rfl) m_is_cell k_is_cell b_is_cell (xa (xv 1) xa0))) (by decide)) xa0)) (xv1 (xcall F_rising (hr.mono (by decide)) (by rfl) m_rising k_rising b_rising (xa (xv 0) xa0)))))))
abbrev s_is_body : Stmt := topS 10
theorem sc_is_body : FnScope ["thing"] ["thing"] (defScope s_is_body) := ⟨rfl, rfl, rfl, by decide +kernel, rfl, by decide +kernel, by decide +kernel⟩
theorem ok_is_body {f : Addr} {fd : FuncData} {dvs : List V} {kws : List (Str × V)} (F : FunD K "is_body" "is_body" (defArgs s_is_body) (defBody s_is_body) (defScope s_is_body) dvs kws f fd) (c_are_cells : Cal P w K mg base "are_cells" 4 ["thing"] sp_are_cells) (n_len : mg "len" = none) (cg_MOST_CELLS : ConG mg "MOST_CELLS" c_MOST_CELLS) : FnOk P w K mg base CX0 5 f fd ["thing"] (lSp0 P w K sp_is_body) := by
  obtain ⟨f_are_cells, fd_are_cells, m_are_cells, F_are_cells, k_are_cells, b_are_cells⟩ := c_are_cells
  obtain ⟨u_MOST_CELLS, v_MOST_CELLS, g_MOST_CELLS, r_MOST_CELLS, t_MOST_CELLS⟩ := cg_MOST_CELLS
  refine def_ok (W := W_is_body) F sc_is_body (fun ds A Q h => wok_is_body ds A Q h) fun cdv A outer s H E hr => ?_
  have hu := hr.units
  exact (xs1 (xret (xvand (xcall F_are_cells (hr.mono (by decide)) (by rfl) m_are_cells k_are_cells b_are_cells (xa (xv 0) xa0)) (xv1 (xchain o_le o_le xi (xblt c_len (by rfl) n_len bo_len (xa (xv 0) xa0)) (xglob (by rfl) g_MOST_CELLS r_MOST_CELLS (t_MOST_CELLS _)))))))
abbrev s_is_row : Stmt := topS 17
theorem sc_is_row : FnScope ["thing"] ["thing"] (defScope s_is_row) := ⟨rfl, rfl, rfl, by decide +kernel, rfl, by decide +kernel, by decide +kernel⟩
theorem ok_is_row {f : Addr} {fd : FuncData} {dvs : List V} {kws : List (Str × V)} (F : FunD K "is_row" "is_row" (defArgs s_is_row) (defBody s_is_row) (defScope s_is_row) dvs kws f fd) (c_is_whole : Cal P w K mg base "is_whole" 2 ["thing", "low", "high"] sp_is_whole) (n_isinstance : mg "isinstance" = none) (n_str : mg "str" = none) (n_len : mg "len" = none) (n_tuple : mg "tuple" = none) (cg_PARTS : TabG w K mg "PARTS" tab_PARTS) (cg_EDGE : ConG mg "EDGE" c_EDGE) (cg_MOST_WAIT : ConG mg "MOST_WAIT" c_MOST_WAIT) : FnOk P w K mg base CX0 3 f fd ["thing"] (lSp0 P w K sp_is_row) := by
  obtain ⟨f_is_whole, fd_is_whole, m_is_whole, F_is_whole, k_is_whole, b_is_whole⟩ := c_is_whole
  obtain ⟨a_PARTS, es_PARTS, en_PARTS, g_PARTS, kd_PARTS, kt_PARTS⟩ := cg_PARTS
  obtain ⟨u_EDGE, v_EDGE, g_EDGE, r_EDGE, t_EDGE⟩ := cg_EDGE
  obtain ⟨u_MOST_WAIT, v_MOST_WAIT, g_MOST_WAIT, r_MOST_WAIT, t_MOST_WAIT⟩ := cg_MOST_WAIT
  refine def_ok (W := W_is_row) F sc_is_row (fun ds A Q h => wok_is_row ds A Q h) fun cdv A outer s H E hr => ?_
  have hu := hr.units
  exact (xsc (xsif (xwp (xo (xnot (xtv (xisi (by rfl) n_isinstance bo_isinstance (by rfl) n_tuple bo_tuple (xv 0)))) (xo (xtcmp (o_eq hu) (xblt c_len (by rfl) n_len bo_len (xa (xv 0) xa0)) xi (by rfl)) (xo1 (xnot (xtv (xisi (by rfl) n_isinstance bo_isinstance (by rfl) n_str bo_str (xix ix_any (xv 0) xi)))))))) (xs1 (xret xb)) xs0)
  (xsc (xsif (xtcmp (o_ne hu) (xmodg kd_PARTS kt_PARTS (xglob (v := .ref a_PARTS) (by rfl) g_PARTS rfl (fun _ => .ref _)) (xix ix_any (xv 0) xi) xi ⟨by rfl, by rfl, by rfl, by rfl⟩) (xblt c_len (by rfl) n_len bo_len (xa (xv 0) xa0)) (by rfl)) (xs1 (xret xb)) xs0)
  (xsc (xsif (xtcmp (o_in hu) (xix ix_any (xv 0) xi) (xtup (xa xs (xa xs xa0))) (by rfl)) (xs1 (xret (xvand (xcall F_is_whole (hr.mono (by decide)) (by rfl) m_is_whole k_is_whole b_is_whole (xa (xix ix_any (xv 0) xi) (xa xi (xa (xglob (by rfl) g_EDGE r_EDGE (t_EDGE _)) xa0)))) (xv1 (xcall F_is_whole (hr.mono (by decide)) (by rfl) m_is_whole k_is_whole b_is_whole (xa (xix ix_any (xv 0) xi) (xa xi (xa (xglob (by rfl) g_EDGE r_EDGE (t_EDGE _)) xa0)))))))) xs0)
  (xsc (xsif (xtcmp (o_eq hu) (xix ix_any (xv 0) xi) xs (by rfl)) (xs1 (xret (xcall F_is_whole (hr.mono (by decide)) (by rfl) m_is_whole k_is_whole b_is_whole (xa (xix ix_any (xv 0) xi) (xa xi (xa xi xa0)))))) xs0)
  (xs1 (xret (xvor (xcmp (o_eq hu) (xix ix_any (xv 0) xi) xs (by rfl)) (xv1 (xcall F_is_whole (hr.mono (by decide)) (by rfl) m_is_whole k_is_whole b_is_whole (xa (xix ix_any (xv 0) xi) (xa xi (xa (xglob (by rfl) g_MOST_WAIT r_MOST_WAIT (t_MOST_WAIT _)) xa0))))))))))))
abbrev s_sign_at : Stmt := topS 23
theorem sc_sign_at : FnScope ["body", "props", "cell"] ["body", "props", "cell"] (defScope s_sign_at) := ⟨rfl, rfl, rfl, by decide +kernel, rfl, by decide +kernel, by decide +kernel⟩
theorem ok_sign_at {f : Addr} {fd : FuncData} {dvs : List V} {kws : List (Str × V)} (F : FunD K "sign_at" "sign_at" (defArgs s_sign_at) (defBody s_sign_at) (defScope s_sign_at) dvs kws f fd)  : FnOk P w K mg base CX0 1 f fd ["body", "props", "cell"] (lSp0 P w K sp_sign_at) := by
  refine def_ok (W := W_sign_at) F sc_sign_at (fun ds A Q h => wok_sign_at ds A Q h) fun cdv A outer s H E hr => ?_
  have hu := hr.units
  exact (xsc (xsif (xtcmp (o_in hu) (xv 2) (xv 0) (by rfl)) (xs1 (xret xs)) xs0)
  (xs1 (xret (xif (xtcmp (o_in hu) (xv 2) (xv 1) (by rfl)) xs xs))))
abbrev s_drawn : Stmt := topS 24
theorem sc_drawn : FnScope ["body", "props", "lines", "z", "y", "cell", "x"] ["body", "props"] (defScope s_drawn) := ⟨rfl, rfl, rfl, by decide +kernel, rfl, by decide +kernel, by decide +kernel⟩
theorem ok_drawn {f : Addr} {fd : FuncData} {dvs : List V} {kws : List (Str × V)} (F : FunD K "drawn" "drawn" (defArgs s_drawn) (defBody s_drawn) (defScope s_drawn) dvs kws f fd) (c_sign_at : Cal P w K mg base "sign_at" 1 ["body", "props", "cell"] sp_sign_at) (n_range : mg "range" = none) (n_max : mg "max" = none) (cg_BETWEEN : ConG mg "BETWEEN" c_BETWEEN) (cg_WIDE : ConG mg "WIDE" c_WIDE) : FnOk P w K mg base CX0 2 f fd ["body", "props"] (lSp0 P w K sp_drawn) := by
  obtain ⟨f_sign_at, fd_sign_at, m_sign_at, F_sign_at, k_sign_at, b_sign_at⟩ := c_sign_at
  obtain ⟨u_BETWEEN, v_BETWEEN, g_BETWEEN, r_BETWEEN, t_BETWEEN⟩ := cg_BETWEEN
  obtain ⟨u_WIDE, v_WIDE, g_WIDE, r_WIDE, t_WIDE⟩ := cg_WIDE
  refine def_okS (W := W_drawn) F sc_drawn (fun ds A Q h => wok_drawn ds A Q h) fun cdv A outer s H E hr => ?_
  have hu := hr.units
  exact (xsc (xset (i := 2) sc_drawn.nd rfl (Or.inl rfl) (xnew xa0))
  (xsc (xfor PassesOwn.never rfl (xirng1 (by rfl) n_range (xa (xop o_add (xblt (c_maxL rfl) (by rfl) n_max bo_max (xa (xlc rfl sc_drawn.nd (xiseq (xop o_add (xv 0) (xv 1))) (blkOk_by (own := [("cell", 5)]) (by kernel_rfl)) (fun _ _ _ _ _ => (xg (i := 5) sc_drawn.nd rfl (Or.inl rfl))) (fun _ _ _ _ _ => xt0) (fun _ _ _ _ _ => (xix ix_any (xv 5) xi)) (by decide)) xa0)) xi) xa0)) (xg (i := 3) sc_drawn.nd rfl (Or.inr rfl))
  (xsc (xsif (xtcmp o_gt (xv 3) xi (by rfl)) (xs1 (xexpr (xm PySem.F.plainAttrs_list PySem.F.slot_list_append PySem.F.type_list_append m_append (xv 2) (xa (xglob (by rfl) g_BETWEEN r_BETWEEN (t_BETWEEN _)) xa0)))) xs0)
  (xs1 (xfor PassesOwn.never rfl (xirng1 (by rfl) n_range (xa (xglob (by rfl) g_WIDE r_WIDE (t_WIDE _)) xa0)) (xg (i := 4) sc_drawn.nd rfl (Or.inr rfl))
  (xs1 (xexpr (xm PySem.F.plainAttrs_list PySem.F.slot_list_append PySem.F.type_list_append m_append (xv 2) (xa (xm PySem.F.plainAttrs_str PySem.F.slot_str_join PySem.F.type_str_join m_join xs (xa (xlc rfl sc_drawn.nd (xirng1 (by rfl) n_range (xa (xglob (by rfl) g_WIDE r_WIDE (t_WIDE _)) xa0)) (blkOk_by (own := [("x", 6)]) (by kernel_rfl)) (fun _ _ _ _ _ => (xg (i := 6) sc_drawn.nd rfl (Or.inl rfl))) (fun _ _ _ _ _ => xt0) (fun _ _ _ _ _ => (xcall F_sign_at (hr.mono (by decide)) (by rfl) m_sign_at k_sign_at b_sign_at (xa (xv 0) (xa (xv 1) (xa (xtup (xa (xv 3) (xa (xv 4) (xa (xv 6) xa0)))) xa0))))) (by decide)) xa0)) xa0))))))))
  (xs1 (xret (xm PySem.F.plainAttrs_str PySem.F.slot_str_join PySem.F.type_str_join m_join xs (xa (xv 2) xa0))))))
abbrev s_read_drawn : Stmt := topS 25
theorem sc_read_drawn : FnScope ["text", "lines", "body", "props", "at", "line", "z", "y", "found", "x", "sign"] ["text"] (defScope s_read_drawn) := ⟨rfl, rfl, rfl, by decide +kernel, rfl, by decide +kernel, by decide +kernel⟩
theorem ok_read_drawn {f : Addr} {fd : FuncData} {dvs : List V} {kws : List (Str × V)} (F : FunD K "read_drawn" "read_drawn" (defArgs s_read_drawn) (defBody s_read_drawn) (defScope s_read_drawn) dvs kws f fd) (c_is_body : Cal P w K mg base "is_body" 5 ["thing"] sp_is_body) (ck_drawn : CalK P w K mg base "drawn" 2 1 ["props"] sp_drawn) (n_isinstance : mg "isinstance" = none) (n_str : mg "str" = none) (n_len : mg "len" = none) (n_enumerate : mg "enumerate" = none) (n_tuple : mg "tuple" = none) (cg_WIDE : ConG mg "WIDE" c_WIDE) (cg_TOP : ConG mg "TOP" c_TOP) : FnOk P w K mg base CX0 6 f fd ["text"] (lSp0 P w K sp_read_drawn) := by
  obtain ⟨fk_drawn, fdk_drawn, psk_drawn, gU_drawn, mk_drawn, Fk_drawn, kk_drawn, kb_drawn⟩ := ck_drawn
  obtain ⟨f_is_body, fd_is_body, m_is_body, F_is_body, k_is_body, b_is_body⟩ := c_is_body
  obtain ⟨u_WIDE, v_WIDE, g_WIDE, r_WIDE, t_WIDE⟩ := cg_WIDE
  obtain ⟨u_TOP, v_TOP, g_TOP, r_TOP, t_TOP⟩ := cg_TOP
  refine def_okS (W := W_read_drawn) F sc_read_drawn (fun ds A Q h => wok_read_drawn ds A Q h) fun cdv A outer s H E hr => ?_
  have hu := hr.units
  exact (xsc (xsif (xnot (xtv (xisi (by rfl) n_isinstance bo_isinstance (by rfl) n_str bo_str (xv 0)))) (xs1 xnever) xs0)
  (xsc (xset (i := 1) sc_read_drawn.nd rfl (Or.inl rfl) (xm PySem.F.plainAttrs_str PySem.F.slot_str_split PySem.F.type_str_split m_split (xv 0) (xa xs xa0)))
  (xsc (xsif (xwp (xo (xtcmp (o_ne hu) (xop o_mod (xblt c_len (by rfl) n_len bo_len (xa (xv 1) xa0)) (xop o_add (xglob (by rfl) g_WIDE r_WIDE (t_WIDE _)) xi)) (xglob (by rfl) g_WIDE r_WIDE (t_WIDE _)) (by rfl)) (xo1 (xtcmp o_gt (xop o_fdiv (xblt c_len (by rfl) n_len bo_len (xa (xv 1) xa0)) (xop o_add (xglob (by rfl) g_WIDE r_WIDE (t_WIDE _)) xi)) (xglob (by rfl) g_TOP r_TOP (t_TOP _)) (by rfl))))) (xs1 xnever) xs0)
  (xsc (xpar (i := 2) (j := 3) rfl sc_read_drawn.nd rfl rfl (by decide) rfl rfl (xa (xnew xa0) (xa (xnew xa0) xa0)) (by rfl))
  (xsc (xfor PassesOwn.never rfl (xienum (by rfl) n_enumerate (xa (xv 1) xa0)) (xgt rfl (xgs (xg (i := 4) sc_read_drawn.nd rfl (Or.inl rfl)) (xgs (xg (i := 5) sc_read_drawn.nd rfl (Or.inl rfl)) xg0)))
  (xsc (xasg (xtup (xa (xop o_fdiv (xv 4) (xop o_add (xglob (by rfl) g_WIDE r_WIDE (t_WIDE _)) xi)) (xa (xop o_mod (xv 4) (xop o_add (xglob (by rfl) g_WIDE r_WIDE (t_WIDE _)) xi)) xa0))) (xgt rfl (xgs (xg (i := 6) sc_read_drawn.nd rfl (Or.inr rfl)) (xgs (xg (i := 7) sc_read_drawn.nd rfl (Or.inr rfl)) xg0))))
  (xs1 (xsif (xtcmp o_lt (xv 7) (xglob (by rfl) g_WIDE r_WIDE (t_WIDE _)) (by rfl)) (xsc (xsif (xtcmp (o_ne hu) (xblt c_len (by rfl) n_len bo_len (xa (xv 5) xa0)) (xglob (by rfl) g_WIDE r_WIDE (t_WIDE _)) (by rfl)) (xs1 xnever) xs0)
  (xsc (xexpr (xm PySem.F.plainAttrs_list PySem.F.slot_list_extend PySem.F.type_list_extend m_extend (xv 2) (xa (xlc rfl sc_read_drawn.nd (xienum (by rfl) n_enumerate (xa (xv 5) xa0)) (blkOk_by (own := [("x", 9), ("sign", 10)]) (by kernel_rfl)) (fun _ _ _ _ _ => (xgt rfl (xgs (xg (i := 9) sc_read_drawn.nd rfl (Or.inl rfl)) (xgs (xg (i := 10) sc_read_drawn.nd rfl (Or.inl rfl)) xg0)))) (fun _ _ _ _ _ => (xt1 (xtcmp (o_eq hu) (xv 10) xs (by rfl)))) (fun _ _ _ _ _ => (xtup (xa (xv 6) (xa (xv 7) (xa (xv 9) xa0))))) (by decide)) xa0)))
  (xs1 (xexpr (xm PySem.F.plainAttrs_list PySem.F.slot_list_extend PySem.F.type_list_extend m_extend (xv 3) (xa (xlc rfl sc_read_drawn.nd (xienum (by rfl) n_enumerate (xa (xv 5) xa0)) (blkOk_by (own := [("x", 9), ("sign", 10)]) (by kernel_rfl)) (fun _ _ _ _ _ => (xgt rfl (xgs (xg (i := 9) sc_read_drawn.nd rfl (Or.inl rfl)) (xgs (xg (i := 10) sc_read_drawn.nd rfl (Or.inl rfl)) xg0)))) (fun _ _ _ _ _ => (xt1 (xtcmp (o_eq hu) (xv 10) xs (by rfl)))) (fun _ _ _ _ _ => (xtup (xa (xv 6) (xa (xv 7) (xa (xv 9) xa0))))) (by decide)) xa0)))))) xs0))))
  (xsc (xset (i := 8) sc_read_drawn.nd rfl (Or.inl rfl) (xtup (xa (xbty c_tup (by rfl) n_tuple bo_tuple (xa (xv 2) xa0)) (xa (xbty c_tup (by rfl) n_tuple bo_tuple (xa (xv 3) xa0)) xa0))))
  (xsc (xsif (xwp (xo (xnot (xtv (xcall F_is_body (hr.mono (by decide)) (by rfl) m_is_body k_is_body b_is_body (xa (xix ix_any (xv 8) xi) xa0)))) (xo1 (xtcmp (o_ne hu) (xcallK (n := 1) (ks := ["props"]) Fk_drawn (hr.mono (by decide)) (by rfl) mk_drawn kk_drawn kb_drawn (fun _ _ _ _ _ h1 h2 => h1.append h2) (xa (xix ix_any (xv 8) xi) xa0) (xk (xix ix_any (xv 8) xi) xk0)) (xv 0) (by rfl))))) (xs1 xnever) xs0)
  (xs1 (xret (xv 8))))))))))
abbrev s_rows_text : Stmt := topS 26
theorem sc_rows_text : FnScope ["rows", "row", "part"] ["rows"] (defScope s_rows_text) := ⟨rfl, rfl, rfl, by decide +kernel, rfl, by decide +kernel, by decide +kernel⟩
theorem ok_rows_text {f : Addr} {fd : FuncData} {dvs : List V} {kws : List (Str × V)} (F : FunD K "rows_text" "rows_text" (defArgs s_rows_text) (defBody s_rows_text) (defScope s_rows_text) dvs kws f fd) (n_str : mg "str" = none) : FnOk P w K mg base CX0 1 f fd ["rows"] (lSp0 P w K sp_rows_text) := by
  refine def_ok (W := W_rows_text) F sc_rows_text (fun ds A Q h => wok_rows_text ds A Q h) fun cdv A outer s H E hr => ?_
  have hu := hr.units
  exact (xs1 (xret (xm PySem.F.plainAttrs_str PySem.F.slot_str_join PySem.F.type_str_join m_join xs (xa (xlc rfl sc_rows_text.nd (xiseq (xv 0)) (blkOk_by (own := [("row", 1)]) (by kernel_rfl)) (fun _ _ _ _ _ => (xg (i := 1) sc_rows_text.nd rfl (Or.inl rfl))) (fun _ _ _ _ _ => xt0) (fun _ _ _ _ _ => (xm PySem.F.plainAttrs_str PySem.F.slot_str_join PySem.F.type_str_join m_join xs (xa (xlc rfl sc_rows_text.nd (xiseq (xv 1)) (blkOk_by (own := [("part", 2)]) (by kernel_rfl)) (fun _ _ _ _ _ => (xg (i := 2) sc_rows_text.nd rfl (Or.inl rfl))) (fun _ _ _ _ _ => xt0) (fun _ _ _ _ _ => (xbty c_str (by rfl) n_str bo_str (xa (xv 2) xa0))) (by decide)) xa0))) (by decide)) xa0))))
abbrev s_number_at : Stmt := topS 27
theorem sc_number_at : FnScope ["word", "sign"] ["word"] (defScope s_number_at) := ⟨rfl, rfl, rfl, by decide +kernel, rfl, by decide +kernel, by decide +kernel⟩
theorem ok_number_at {f : Addr} {fd : FuncData} {dvs : List V} {kws : List (Str × V)} (F : FunD K "number_at" "number_at" (defArgs s_number_at) (defBody s_number_at) (defScope s_number_at) dvs kws f fd) (n_all : mg "all" = none) (n_len : mg "len" = none) (n_int : mg "int" = none) (cg_FIGURES : ConG mg "FIGURES" c_FIGURES) (cg_MOST_FIGURES : ConG mg "MOST_FIGURES" c_MOST_FIGURES) : FnOk P w K mg base CX0 1 f fd ["word"] (lSp0 P w K sp_number_at) := by
  obtain ⟨u_FIGURES, v_FIGURES, g_FIGURES, r_FIGURES, t_FIGURES⟩ := cg_FIGURES
  obtain ⟨u_MOST_FIGURES, v_MOST_FIGURES, g_MOST_FIGURES, r_MOST_FIGURES, t_MOST_FIGURES⟩ := cg_MOST_FIGURES
  refine def_ok (W := W_number_at) F sc_number_at (fun ds A Q h => wok_number_at ds A Q h) fun cdv A outer s H E hr => ?_
  have hu := hr.units
  exact (xsc (xsif (xwp (xo (xnot (xtchain o_le o_le xi (xblt c_len (by rfl) n_len bo_len (xa (xv 0) xa0)) (xglob (by rfl) g_MOST_FIGURES r_MOST_FIGURES (t_MOST_FIGURES _)))) (xo1 (xnot (xtv (xblt (c_all rfl) (by rfl) n_all bo_all (xa (xlc rfl sc_number_at.nd (xistr (xv 0)) (blkOk_by (own := [("sign", 1)]) (by kernel_rfl)) (fun _ _ _ _ _ => (xg (i := 1) sc_number_at.nd rfl (Or.inl rfl))) (fun _ _ _ _ _ => xt0) (fun _ _ _ _ _ => (xcmp o_inS (xv 1) (xglob (by rfl) g_FIGURES r_FIGURES (t_FIGURES _)) (by rfl))) (by decide)) xa0))))))) (xs1 xnever) xs0)
  (xsc (xsif (xwp (xw (xtcmp (o_eq hu) (xix ix_any (xv 0) xi) xs (by rfl)) (xw1 (xtcmp (o_ne hu) (xv 0) xs (by rfl))))) (xs1 xnever) xs0)
  (xs1 (xret (xbty c_intS (by rfl) n_int bo_int (xa (xv 0) xa0))))))
abbrev s_read_rows : Stmt := topS 28
theorem sc_read_rows : FnScope ["text", "found", "line", "words", "row", "word"] ["text"] (defScope s_read_rows) := ⟨rfl, rfl, rfl, by decide +kernel, rfl, by decide +kernel, by decide +kernel⟩
theorem ok_read_rows {f : Addr} {fd : FuncData} {dvs : List V} {kws : List (Str × V)} (F : FunD K "read_rows" "read_rows" (defArgs s_read_rows) (defBody s_read_rows) (defScope s_read_rows) dvs kws f fd) (c_number_at : Cal P w K mg base "number_at" 1 ["word"] sp_number_at) (c_is_row : Cal P w K mg base "is_row" 3 ["thing"] sp_is_row) (n_isinstance : mg "isinstance" = none) (n_str : mg "str" = none) (n_tuple : mg "tuple" = none) : FnOk P w K mg base CX0 4 f fd ["text"] (lSp0 P w K sp_read_rows) := by
  obtain ⟨f_number_at, fd_number_at, m_number_at, F_number_at, k_number_at, b_number_at⟩ := c_number_at
  obtain ⟨f_is_row, fd_is_row, m_is_row, F_is_row, k_is_row, b_is_row⟩ := c_is_row
  refine def_ok (W := W_read_rows) F sc_read_rows (fun ds A Q h => wok_read_rows ds A Q h) fun cdv A outer s H E hr => ?_
  have hu := hr.units
  exact (xsc (xsif (xnot (xtv (xisi (by rfl) n_isinstance bo_isinstance (by rfl) n_str bo_str (xv 0)))) (xs1 xnever) xs0)
  (xsc (xset (i := 1) sc_read_rows.nd rfl (Or.inl rfl) (xnew xa0))
  (xsc (xfor PassesOwn.never rfl (xiseq (xif (xtcmp (o_ne hu) (xv 0) xs (by rfl)) (xm PySem.F.plainAttrs_str PySem.F.slot_str_split PySem.F.type_str_split m_split (xv 0) (xa xs xa0)) (xlst xa0))) (xg (i := 2) sc_read_rows.nd rfl (Or.inl rfl))
  (xsc (xset (i := 3) sc_read_rows.nd rfl (Or.inl rfl) (xm PySem.F.plainAttrs_str PySem.F.slot_str_split PySem.F.type_str_split m_split (xv 2) (xa xs xa0)))
  (xsc (xset (i := 4) sc_read_rows.nd rfl (Or.inl rfl) (xop o_add (xtup (xa (xix ix_any (xv 3) xi) xa0)) (xbty c_tup (by rfl) n_tuple bo_tuple (xa (xlc rfl sc_read_rows.nd (xiseq (xsl (xv 3) (xos xi) xon)) (blkOk_by (own := [("word", 5)]) (by kernel_rfl)) (fun _ _ _ _ _ => (xg (i := 5) sc_read_rows.nd rfl (Or.inl rfl))) (fun _ _ _ _ _ => xt0) (fun _ _ _ _ _ => (xcall F_number_at (hr.mono (by decide)) (by rfl) m_number_at k_number_at b_number_at (xa (xv 5) xa0))) (by decide)) xa0))))
  (xsc (xsif (xnot (xtv (xcall F_is_row (hr.mono (by decide)) (by rfl) m_is_row k_is_row b_is_row (xa (xv 4) xa0)))) (xs1 xnever) xs0)
  (xs1 (xexpr (xm PySem.F.plainAttrs_list PySem.F.slot_list_append PySem.F.type_list_append m_append (xv 1) (xa (xv 4) xa0))))))))
  (xs1 (xret (xv 1))))))
abbrev s__law_well : Stmt := topS 30
theorem sc__law_well : FnScope ["_law_script", "_law_k", "_law_cell", "_law_primes", "_law_seed"] ["_law_script", "_law_k"] (defScope s__law_well) := ⟨rfl, rfl, rfl, by decide +kernel, rfl, by decide +kernel, by decide +kernel⟩
theorem ok__law_well {f : Addr} {fd : FuncData} {dvs : List V} {kws : List (Str × V)} (F : FunD K "_law_well" "_law_well" (defArgs s__law_well) (defBody s__law_well) (defScope s__law_well) dvs kws f fd) (n_len : mg "len" = none) : FnOk P w K mg base CX0 1 f fd ["_law_script", "_law_k"] (lSp0 P w K sp__law_well) := by
  refine def_ok (W := W__law_well) F sc__law_well (fun ds A Q h => wok__law_well ds A Q h) fun cdv A outer s H E hr => ?_
  have hu := hr.units
  exact (xsc (xset (i := 2) sc__law_well.nd rfl (Or.inl rfl) xi)
  (xsc (xsif (xtcmp o_lt (xv 1) (xblt c_len (by rfl) n_len bo_len (xa (xv 0) xa0)) (by rfl)) (xs1 (xset (i := 2) sc__law_well.nd rfl (Or.inl rfl) (xix ix_any (xv 0) (xv 1)))) xs0)
  (xsc (xset (i := 3) sc__law_well.nd rfl (Or.inl rfl) (xlst (xa xi (xa xi (xa xi (xa xi (xa xi (xa xi (xa xi (xa xi xa0))))))))))
  (xsc (xset (i := 4) sc__law_well.nd rfl (Or.inl rfl) (xop o_mod (xop o_mul (xop o_add (xop o_mod (xv 2) xi) xi) (xop o_add xi (xop o_mul xi (xv 1)))) xi))
  (xsc (xset (i := 4) sc__law_well.nd rfl (Or.inl rfl) (xop o_add (xop o_add (xop o_mod (xop o_mul (xv 4) (xv 4)) xi) (xv 1)) xi))
  (xsc (xsif (xtcmp o_ge (xv 2) (xop o_pow xi xi) (by rfl)) (xs1 (xret (xnew (xa (xv 2) (xa (xv 4) (xa (xix ix_any (xv 3) (xop o_mod (xv 1) xi)) xa0)))))) xs0)
  (xs1 (xret (xnew (xa xi (xa (xv 4) (xa (xix ix_any (xv 3) (xop o_mod (xv 1) xi)) xa0))))))))))))
abbrev s__law_take : Stmt := topS 31
theorem sc__law_take : FnScope ["_law_well_here", "_law_many", "_law_got"] ["_law_well_here", "_law_many"] (defScope s__law_take) := ⟨rfl, rfl, rfl, by decide +kernel, rfl, by decide +kernel, by decide +kernel⟩
theorem ok__law_take {f : Addr} {fd : FuncData} {dvs : List V} {kws : List (Str × V)} (F : FunD K "_law_take" "_law_take" (defArgs s__law_take) (defBody s__law_take) (defScope s__law_take) dvs kws f fd)  : FnOk P w K mg base CX0 1 f fd ["_law_well_here", "_law_many"] (lSp0 P w K sp__law_take) := by
  refine def_ok (W := W__law_take) F sc__law_take (fun ds A Q h => wok__law_take ds A Q h) fun cdv A outer s H E hr => ?_
  have hu := hr.units
  exact (xsc (xsif (xtcmp o_gt (xix ix_any (xv 0) xi) xi (by rfl)) (xsc (xset (i := 2) sc__law_take.nd rfl (Or.inl rfl) (xop o_mod (xix ix_any (xv 0) xi) (xv 1)))
  (xsc (xasg (xop o_fdiv (xix ix_any (xv 0) xi) (xv 1)) (xgsub (xv 0) xi st_lst))
  (xs1 (xret (xv 2))))) xs0)
  (xsc (xasg (xop o_add (xop o_mod (xop o_mul (xix ix_any (xv 0) xi) xi) (xix ix_any (xv 0) xi)) xi) (xgsub (xv 0) xi st_lst))
  (xs1 (xret (xop o_mod (xop o_fdiv (xop o_mod (xop o_mul (xix ix_any (xv 0) xi) (xix ix_any (xv 0) xi)) xi) xi) (xv 1))))))
abbrev s__law_is_int : Stmt := topS 32
theorem sc__law_is_int : FnScope ["_law_thing", "_law_low", "_law_high"] ["_law_thing", "_law_low", "_law_high"] (defScope s__law_is_int) := ⟨rfl, rfl, rfl, by decide +kernel, rfl, by decide +kernel, by decide +kernel⟩
theorem ok__law_is_int {f : Addr} {fd : FuncData} {dvs : List V} {kws : List (Str × V)} (F : FunD K "_law_is_int" "_law_is_int" (defArgs s__law_is_int) (defBody s__law_is_int) (defScope s__law_is_int) dvs kws f fd) (n_isinstance : mg "isinstance" = none) (n_bool : mg "bool" = none) (n_int : mg "int" = none) : FnOk P w K mg base CX0 1 f fd ["_law_thing", "_law_low", "_law_high"] (lSp0 P w K sp__law_is_int) := by
  refine def_ok (W := W__law_is_int) F sc__law_is_int (fun ds A Q h => wok__law_is_int ds A Q h) fun cdv A outer s H E hr => ?_
  have hu := hr.units
  exact (xs1 (xret (xvand (xisi (by rfl) n_isinstance bo_isinstance (by rfl) n_int bo_int (xv 0)) (xvand (xvnot (xisi (by rfl) n_isinstance bo_isinstance (by rfl) n_bool bo_bool (xv 0))) (xvand (xcmp o_le (xv 1) (xv 0) (by rfl)) (xv1 (xcmp o_le (xv 0) (xv 2) (by rfl))))))))
abbrev s__law_body : Stmt := topS 33
theorem sc__law_body : FnScope ["_law_well_here", "_law_high", "_law_found", "_law_turn", "_law_z", "_law_y", "_law_x", "_law_step"] ["_law_well_here", "_law_high"] (defScope s__law_body) := ⟨rfl, rfl, rfl, by decide +kernel, rfl, by decide +kernel, by decide +kernel⟩
theorem ok__law_body {f : Addr} {fd : FuncData} {dvs : List V} {kws : List (Str × V)} (F : FunD K "_law_body" "_law_body" (defArgs s__law_body) (defBody s__law_body) (defScope s__law_body) dvs kws f fd) (c__law_take : Cal P w K mg base "_law_take" 1 ["_law_well_here", "_law_many"] sp__law_take) (n_range : mg "range" = none) (n_list : mg "list" = none) (n_tuple : mg "tuple" = none) (n_sorted : mg "sorted" = none) : FnOk P w K mg base CX0 2 f fd ["_law_well_here", "_law_high"] (lSp0 P w K sp__law_body) := by
  obtain ⟨f__law_take, fd__law_take, m__law_take, F__law_take, k__law_take, b__law_take⟩ := c__law_take
  refine def_ok (W := W__law_body) F sc__law_body (fun ds A Q h => wok__law_body ds A Q h) fun cdv A outer s H E hr => ?_
  have hu := hr.units
  exact (xsc (xset (i := 2) sc__law_body.nd rfl (Or.inl rfl) (xdct1 hu (xtup (xa (xcall F__law_take (hr.mono (by decide)) (by rfl) m__law_take k__law_take b__law_take (xa (xv 0) (xa (xv 1) xa0))) (xa (xcall F__law_take (hr.mono (by decide)) (by rfl) m__law_take k__law_take b__law_take (xa (xv 0) (xa xi xa0))) (xa (xcall F__law_take (hr.mono (by decide)) (by rfl) m__law_take k__law_take b__law_take (xa (xv 0) (xa xi xa0))) xa0)))) xb))
  (xsc (xfor PassesOwn.never rfl (xirng1 (by rfl) n_range (xa (xcall F__law_take (hr.mono (by decide)) (by rfl) m__law_take k__law_take b__law_take (xa (xv 0) (xa xi xa0))) xa0)) (xg (i := 3) sc__law_body.nd rfl (Or.inl rfl))
  (xsc (xpar3 (i := 4) (j := 5) (l := 6) rfl sc__law_body.nd rfl rfl rfl (by decide) (by decide) (by decide) rfl rfl rfl (xa (xcall F__law_take (hr.mono (by decide)) (by rfl) m__law_take k__law_take b__law_take (xa (xv 0) (xa (xv 1) xa0))) (xa (xcall F__law_take (hr.mono (by decide)) (by rfl) m__law_take k__law_take b__law_take (xa (xv 0) (xa xi xa0))) (xa (xcall F__law_take (hr.mono (by decide)) (by rfl) m__law_take k__law_take b__law_take (xa (xv 0) (xa xi xa0))) xa0))) (by rfl))
  (xs1 (xfor PassesOwn.never rfl (xirng1 (by rfl) n_range (xa (xop o_add xi (xcall F__law_take (hr.mono (by decide)) (by rfl) m__law_take k__law_take b__law_take (xa (xv 0) (xa xi xa0)))) xa0)) (xg (i := 7) sc__law_body.nd rfl (Or.inl rfl))
  (xs1 (xsif (xtcmp o_lt (xop o_add (xv 6) (xv 7)) xi (by rfl)) (xs1 (xasg xb (xgsub (xv 2) (xtup (xa (xv 4) (xa (xv 5) (xa (xop o_add (xv 6) (xv 7)) xa0)))) (st_dct hu)))) xs0))))))
  (xsc (xsif (xtcmp (o_eq hu) (xcall F__law_take (hr.mono (by decide)) (by rfl) m__law_take k__law_take b__law_take (xa (xv 0) (xa xi xa0))) xi (by rfl)) (xs1 (xexpr (xm PySem.F.plainAttrs_dict PySem.F.slot_dict_update PySem.F.type_dict_update (m_updT rfl hu) (xv 2) (xa (xlc rfl sc__law_body.nd (xiseq (xbty (c_listD rfl) (by rfl) n_list bo_list (xa (xv 2) xa0))) (blkOk_by (own := [("_law_z", 4), ("_law_y", 5), ("_law_x", 6)]) (by kernel_rfl)) (fun _ _ _ _ _ => (xgt rfl (xgs (xg (i := 4) sc__law_body.nd rfl (Or.inl rfl)) (xgs (xg (i := 5) sc__law_body.nd rfl (Or.inl rfl)) (xgs (xg (i := 6) sc__law_body.nd rfl (Or.inl rfl)) xg0))))) (fun _ _ _ _ _ => xt0) (fun _ _ _ _ _ => (xtup (xa (xtup (xa xi (xa (xv 5) (xa (xv 6) xa0)))) (xa xb xa0)))) (by decide)) xa0)))) xs0)
  (xs1 (xret (xbty c_tup (by rfl) n_tuple bo_tuple (xa (xblt (c_sortD rfl hu) (by rfl) n_sorted bo_sorted (xa (xv 2) xa0)) xa0)))))))
abbrev s__law_row : Stmt := topS 34
theorem sc__law_row : FnScope ["_law_well_here", "_law_way", "_law_some"] ["_law_well_here"] (defScope s__law_row) := ⟨rfl, rfl, rfl, by decide +kernel, rfl, by decide +kernel, by decide +kernel⟩
theorem ok__law_row {f : Addr} {fd : FuncData} {dvs : List V} {kws : List (Str × V)} (F : FunD K "_law_row" "_law_row" (defArgs s__law_row) (defBody s__law_row) (defScope s__law_row) dvs kws f fd) (c__law_take : Cal P w K mg base "_law_take" 1 ["_law_well_here", "_law_many"] sp__law_take) : FnOk P w K mg base CX0 2 f fd ["_law_well_here"] (lSp0 P w K sp__law_row) := by
  obtain ⟨f__law_take, fd__law_take, m__law_take, F__law_take, k__law_take, b__law_take⟩ := c__law_take
  refine def_ok (W := W__law_row) F sc__law_row (fun ds A Q h => wok__law_row ds A Q h) fun cdv A outer s H E hr => ?_
  have hu := hr.units
  exact (xsc (xset (i := 1) sc__law_row.nd rfl (Or.inl rfl) (xcall F__law_take (hr.mono (by decide)) (by rfl) m__law_take k__law_take b__law_take (xa (xv 0) (xa xi xa0))))
  (xsc (xsif (xtcmp o_lt (xv 1) xi (by rfl)) (xs1 (xret (xtup (xa xs (xa (xcall F__law_take (hr.mono (by decide)) (by rfl) m__law_take k__law_take b__law_take (xa (xv 0) (xa xi xa0))) (xa (xcall F__law_take (hr.mono (by decide)) (by rfl) m__law_take k__law_take b__law_take (xa (xv 0) (xa xi xa0))) xa0)))))) xs0)
  (xsc (xsif (xtcmp o_lt (xv 1) xi (by rfl)) (xs1 (xret (xtup (xa xs (xa (xcall F__law_take (hr.mono (by decide)) (by rfl) m__law_take k__law_take b__law_take (xa (xv 0) (xa xi xa0))) (xa (xcall F__law_take (hr.mono (by decide)) (by rfl) m__law_take k__law_take b__law_take (xa (xv 0) (xa xi xa0))) xa0)))))) xs0)
  (xsc (xsif (xtcmp (o_eq hu) (xv 1) xi (by rfl)) (xs1 (xret (xtup (xa xs xa0)))) xs0)
  (xsc (xsif (xtcmp (o_eq hu) (xv 1) xi (by rfl)) (xs1 (xret (xtup (xa xs (xa (xcall F__law_take (hr.mono (by decide)) (by rfl) m__law_take k__law_take b__law_take (xa (xv 0) (xa xi xa0))) xa0))))) xs0)
  (xsc (xsif (xtcmp (o_eq hu) (xv 1) xi (by rfl)) (xs1 (xret (xtup (xa xs (xa (xop o_add xi (xcall F__law_take (hr.mono (by decide)) (by rfl) m__law_take k__law_take b__law_take (xa (xv 0) (xa xi xa0)))) xa0))))) xs0)
  (xsc (xset (i := 2) sc__law_row.nd rfl (Or.inl rfl) (xlst (xa (xtup (xa xs (xa xi (xa xi xa0)))) (xa (xtup (xa xs (xa xi (xa (xneg xi) xa0)))) (xa (xtup (xa xs (xa xi xa0))) (xa (xtup (xa xs (xa xi xa0))) (xa (xtup (xa xs (xa xi xa0))) (xa (xtup (xa xs (xa xi xa0))) xa0))))))))
  (xsc (xset (i := 2) sc__law_row.nd rfl (Or.inl rfl) (xop o_addF (xv 2) (xlst (xa (xlst (xa xs xa0)) (xa (xtup (xa xs xa0)) (xa xi (xa (xtup xa0) (xa (xtup (xa xs (xa xi (xa xb xa0)))) (xa (xtup (xa xs (xa xi xa0))) (xa xn (xa (xtup (xa xs (xa xi xa0))) xa0)))))))))))
  (xs1 (xret (xix ix_any (xv 2) (xcall F__law_take (hr.mono (by decide)) (by rfl) m__law_take k__law_take b__law_take (xa (xv 0) (xa xi xa0))))))))))))))
abbrev s__law_is_row : Stmt := topS 35
theorem sc__law_is_row : FnScope ["_law_row_here", "_law_bounds_of", "_law_some", "_law_part", "_law_low", "_law_high"] ["_law_row_here"] (defScope s__law_is_row) := ⟨rfl, rfl, rfl, by decide +kernel, rfl, by decide +kernel, by decide +kernel⟩
theorem ok__law_is_row {f : Addr} {fd : FuncData} {dvs : List V} {kws : List (Str × V)} (F : FunD K "_law_is_row" "_law_is_row" (defArgs s__law_is_row) (defBody s__law_is_row) (defScope s__law_is_row) dvs kws f fd) (c__law_is_int : Cal P w K mg base "_law_is_int" 1 ["_law_thing", "_law_low", "_law_high"] sp__law_is_int) (n_isinstance : mg "isinstance" = none) (n_str : mg "str" = none) (n_len : mg "len" = none) (n_tuple : mg "tuple" = none) (n_zip : mg "zip" = none) : FnOk P w K mg base CX0 2 f fd ["_law_row_here"] (lSp0 P w K sp__law_is_row) := by
  obtain ⟨f__law_is_int, fd__law_is_int, m__law_is_int, F__law_is_int, k__law_is_int, b__law_is_int⟩ := c__law_is_int
  refine def_okS (W := W__law_is_row) F sc__law_is_row (fun ds A Q h => wok__law_is_row ds A Q h) fun cdv A outer s H E hr => ?_
  have hu := hr.units
  exact (xsc (xsif (xwp (xo (xnot (xtv (xisi (by rfl) n_isinstance bo_isinstance (by rfl) n_tuple bo_tuple (xv 0)))) (xo (xtcmp (o_eq hu) (xblt c_len (by rfl) n_len bo_len (xa (xv 0) xa0)) xi (by rfl)) (xo1 (xnot (xtv (xisi (by rfl) n_isinstance bo_isinstance (by rfl) n_str bo_str (xix ix_any (xv 0) xi)))))))) (xs1 (xret xb)) xs0)
  (xsc (xset (i := 1) sc__law_is_row.nd rfl (Or.inl rfl) (xdisp (xp xs (xlst (xa (xtup (xa xi (xa xi xa0))) (xa (xtup (xa xi (xa xi xa0))) xa0))) (xp xs (xlst (xa (xtup (xa xi (xa xi xa0))) (xa (xtup (xa xi (xa xi xa0))) xa0))) (xp xs (xlst xa0) xp0)))))
  (xsc (xexpr (xm PySem.F.plainAttrs_dict PySem.F.slot_dict_update PySem.F.type_dict_update m_updDk (xv 1) (xa (xdisp (xp xs (xlst (xa (xtup (xa xi (xa xi xa0))) xa0)) (xp xs (xlst (xa (xtup (xa xi (xa xi xa0))) xa0)) xp0))) xa0)))
  (xsc (xset (i := 2) sc__law_is_row.nd rfl (Or.inl rfl) (xm PySem.F.plainAttrs_dict PySem.F.slot_dict_get PySem.F.type_dict_get (m_getDk hu) (xv 1) (xa (xix ix_any (xv 0) xi) (xa xn xa0))))
  (xsc (xsif (xwp (xo (xtcmp o_is (xv 2) xn (by rfl)) (xo1 (xtcmp (o_ne hu) (xblt c_len (by rfl) n_len bo_len (xa (xv 0) xa0)) (xop o_add xi (xblt c_len (by rfl) n_len bo_len (xa (xv 2) xa0))) (by rfl))))) (xs1 (xret xb)) xs0)
  (xsc (xfor PassesOwn.never rfl (xizip (by rfl) n_zip (xa (xsl (xv 0) (xos xi) xon) (xa (xv 2) xa0))) (xgt rfl (xgs (xg (i := 3) sc__law_is_row.nd rfl (Or.inl rfl)) (xgs (xgt rfl (xgs (xg (i := 4) sc__law_is_row.nd rfl (Or.inl rfl)) (xgs (xg (i := 5) sc__law_is_row.nd rfl (Or.inl rfl)) xg0))) xg0)))
  (xs1 (xsif (xnot (xtv (xcall F__law_is_int (hr.mono (by decide)) (by rfl) m__law_is_int k__law_is_int b__law_is_int (xa (xv 3) (xa (xv 4) (xa (xv 5) xa0)))))) (xs1 (xret xb)) xs0)))
  (xs1 (xret xb))))))))
abbrev s__law_drawn : Stmt := topS 36
theorem sc__law_drawn : FnScope ["_law_body_here", "_law_stays", "_law_high", "_law_lines", "_law_z", "_law_y", "_law_signs", "_law_x", "_law_cell"] ["_law_body_here", "_law_stays"] (defScope s__law_drawn) := ⟨rfl, rfl, rfl, by decide +kernel, rfl, by decide +kernel, by decide +kernel⟩
theorem ok__law_drawn {f : Addr} {fd : FuncData} {dvs : List V} {kws : List (Str × V)} (F : FunD K "_law_drawn" "_law_drawn" (defArgs s__law_drawn) (defBody s__law_drawn) (defScope s__law_drawn) dvs kws f fd) (n_max : mg "max" = none) (n_range : mg "range" = none) (n_int : mg "int" = none) : FnOk P w K mg base CX0 1 f fd ["_law_body_here", "_law_stays"] (lSp0 P w K sp__law_drawn) := by
  refine def_okS (W := W__law_drawn) F sc__law_drawn (fun ds A Q h => wok__law_drawn ds A Q h) fun cdv A outer s H E hr => ?_
  have hu := hr.units
  exact (xsc (xset (i := 2) sc__law_drawn.nd rfl (Or.inl rfl) (xblt (c_maxL rfl) (by rfl) n_max bo_max (xa (xlc rfl sc__law_drawn.nd (xiseq (xop o_add (xv 0) (xv 1))) (blkOk_by (own := [("_law_cell", 8)]) (by kernel_rfl)) (fun _ _ _ _ _ => (xg (i := 8) sc__law_drawn.nd rfl (Or.inl rfl))) (fun _ _ _ _ _ => xt0) (fun _ _ _ _ _ => (xix ix_any (xv 8) xi)) (by decide)) xa0)))
  (xsc (xset (i := 3) sc__law_drawn.nd rfl (Or.inl rfl) (xnew xa0))
  (xsc (xfor PassesOwn.never rfl (xirng1 (by rfl) n_range (xa (xop o_add (xv 2) xi) xa0)) (xg (i := 4) sc__law_drawn.nd rfl (Or.inl rfl))
  (xsc (xset (i := 3) sc__law_drawn.nd rfl (Or.inl rfl) (xop o_addM (xv 3) (xfrz (xop o_repM (xnew (xa xs xa0)) (xbty c_int (by rfl) n_int bo_int (xa (xcmp o_gt (xv 4) xi (by rfl)) xa0))))))
  (xs1 (xfor PassesOwn.never rfl (xirng1 (by rfl) n_range (xa xi xa0)) (xg (i := 5) sc__law_drawn.nd rfl (Or.inl rfl))
  (xsc (xset (i := 6) sc__law_drawn.nd rfl (Or.inl rfl) (xop o_repM (xnew (xa xs xa0)) xi))
  (xsc (xfor PassesOwn.never rfl (xirng1 (by rfl) n_range (xa xi xa0)) (xg (i := 7) sc__law_drawn.nd rfl (Or.inl rfl))
  (xsc (xsif (xtcmp (o_in hu) (xtup (xa (xv 4) (xa (xv 5) (xa (xv 7) xa0)))) (xv 1) (by rfl)) (xs1 (xasg xs (xgsub (xv 6) (xv 7) st_lst))) xs0)
  (xs1 (xsif (xtcmp (o_in hu) (xtup (xa (xv 4) (xa (xv 5) (xa (xv 7) xa0)))) (xv 0) (by rfl)) (xs1 (xasg xs (xgsub (xv 6) (xv 7) st_lst))) xs0))))
  (xs1 (xexpr (xm PySem.F.plainAttrs_list PySem.F.slot_list_append PySem.F.type_list_append m_append (xv 3) (xa (xm PySem.F.plainAttrs_str PySem.F.slot_str_join PySem.F.type_str_join m_join xs (xa (xv 6) xa0)) xa0))))))))))
  (xs1 (xret (xm PySem.F.plainAttrs_str PySem.F.slot_str_join PySem.F.type_str_join m_join xs (xa (xv 3) xa0)))))))
abbrev s__law_rows_text : Stmt := topS 37
theorem sc__law_rows_text : FnScope ["_law_rows", "_law_row_here", "_law_part"] ["_law_rows"] (defScope s__law_rows_text) := ⟨rfl, rfl, rfl, by decide +kernel, rfl, by decide +kernel, by decide +kernel⟩
theorem ok__law_rows_text {f : Addr} {fd : FuncData} {dvs : List V} {kws : List (Str × V)} (F : FunD K "_law_rows_text" "_law_rows_text" (defArgs s__law_rows_text) (defBody s__law_rows_text) (defScope s__law_rows_text) dvs kws f fd) (n_str : mg "str" = none) : FnOk P w K mg base CX0 1 f fd ["_law_rows"] (lSp0 P w K sp__law_rows_text) := by
  refine def_ok (W := W__law_rows_text) F sc__law_rows_text (fun ds A Q h => wok__law_rows_text ds A Q h) fun cdv A outer s H E hr => ?_
  have hu := hr.units
  exact (xs1 (xret (xm PySem.F.plainAttrs_str PySem.F.slot_str_join PySem.F.type_str_join m_join xs (xa (xlc rfl sc__law_rows_text.nd (xiseq (xv 0)) (blkOk_by (own := [("_law_row_here", 1)]) (by kernel_rfl)) (fun _ _ _ _ _ => (xg (i := 1) sc__law_rows_text.nd rfl (Or.inl rfl))) (fun _ _ _ _ _ => xt0) (fun _ _ _ _ _ => (xm PySem.F.plainAttrs_str PySem.F.slot_str_join PySem.F.type_str_join m_join xs (xa (xlc rfl sc__law_rows_text.nd (xiseq (xv 1)) (blkOk_by (own := [("_law_part", 2)]) (by kernel_rfl)) (fun _ _ _ _ _ => (xg (i := 2) sc__law_rows_text.nd rfl (Or.inl rfl))) (fun _ _ _ _ _ => xt0) (fun _ _ _ _ _ => (xbty c_str (by rfl) n_str bo_str (xa (xv 2) xa0))) (by decide)) xa0))) (by decide)) xa0))))
abbrev s_law : Stmt := topS 38
theorem sc_law : FnScope ["_law_script", "_law_k", "_law_well_here", "_law_body_here", "_law_stays", "_law_turn", "_law_text", "_law_rows", "_law_some", "_law_cell", "_law_row_here"] ["_law_script"] (defScope s_law) := ⟨rfl, rfl, rfl, by decide +kernel, rfl, by decide +kernel, by decide +kernel⟩
theorem ok_law {f : Addr} {fd : FuncData} {dvs : List V} {kws : List (Str × V)} (F : FunD K "law" "law" (defArgs s_law) (defBody s_law) (defScope s_law) dvs kws f fd) (c__law_well : Cal P w K mg base "_law_well" 1 ["_law_script", "_law_k"] sp__law_well) (c__law_body : Cal P w K mg base "_law_body" 2 ["_law_well_here", "_law_high"] sp__law_body) (c__law_take : Cal P w K mg base "_law_take" 1 ["_law_well_here", "_law_many"] sp__law_take) (c__law_drawn : Cal P w K mg base "_law_drawn" 1 ["_law_body_here", "_law_stays"] sp__law_drawn) (c_read_drawn : Cal P w K mg base "read_drawn" 6 ["text"] sp_read_drawn) (c__law_row : Cal P w K mg base "_law_row" 2 ["_law_well_here"] sp__law_row) (c__law_is_row : Cal P w K mg base "_law_is_row" 2 ["_law_row_here"] sp__law_is_row) (c_read_rows : Cal P w K mg base "read_rows" 4 ["text"] sp_read_rows) (c__law_rows_text : Cal P w K mg base "_law_rows_text" 1 ["_law_rows"] sp__law_rows_text) (c_rows_text : Cal P w K mg base "rows_text" 1 ["rows"] sp_rows_text) (ck_drawn : CalK P w K mg base "drawn" 2 1 ["props"] sp_drawn) (cd_drawn : CalD P w K mg base "drawn" 2 sp_drawn dfl_drawn) (n_range : mg "range" = none) (n_max : mg "max" = none) (n_min : mg "min" = none) (n_len : mg "len" = none) (n_tuple : mg "tuple" = none) (n_sorted : mg "sorted" = none) : FnOk P w K mg base CX0 7 f fd ["_law_script"] (lSp0 P w K sp_law) := by
  obtain ⟨fk_drawn, fdk_drawn, psk_drawn, gU_drawn, mk_drawn, Fk_drawn, kk_drawn, kb_drawn⟩ := ck_drawn
  obtain ⟨fd_drawn, fdd_drawn, psd_drawn, dsd_drawn, dvd_drawn, md_drawn, Fd_drawn, kd_drawn, bd_drawn, bv_drawn, bt_drawn⟩ := cd_drawn
  obtain ⟨f__law_well, fd__law_well, m__law_well, F__law_well, k__law_well, b__law_well⟩ := c__law_well
  obtain ⟨f__law_body, fd__law_body, m__law_body, F__law_body, k__law_body, b__law_body⟩ := c__law_body
  obtain ⟨f__law_take, fd__law_take, m__law_take, F__law_take, k__law_take, b__law_take⟩ := c__law_take
  obtain ⟨f__law_drawn, fd__law_drawn, m__law_drawn, F__law_drawn, k__law_drawn, b__law_drawn⟩ := c__law_drawn
  obtain ⟨f_read_drawn, fd_read_drawn, m_read_drawn, F_read_drawn, k_read_drawn, b_read_drawn⟩ := c_read_drawn
  obtain ⟨f__law_row, fd__law_row, m__law_row, F__law_row, k__law_row, b__law_row⟩ := c__law_row
  obtain ⟨f__law_is_row, fd__law_is_row, m__law_is_row, F__law_is_row, k__law_is_row, b__law_is_row⟩ := c__law_is_row
  obtain ⟨f_read_rows, fd_read_rows, m_read_rows, F_read_rows, k_read_rows, b_read_rows⟩ := c_read_rows
  obtain ⟨f__law_rows_text, fd__law_rows_text, m__law_rows_text, F__law_rows_text, k__law_rows_text, b__law_rows_text⟩ := c__law_rows_text
  obtain ⟨f_rows_text, fd_rows_text, m_rows_text, F_rows_text, k_rows_text, b_rows_text⟩ := c_rows_text
  refine def_ok (W := W_law) F sc_law (fun ds A Q h => wok_law ds A Q h) fun cdv A outer s H E hr => ?_
  have hu := hr.units
  exact (xsc (xfor PassesOwn.never rfl (xirng1 (by rfl) n_range (xa (xblt (c_max2 rfl) (by rfl) n_max bo_max (xa xi (xa (xblt (c_min2 rfl) (by rfl) n_min bo_min (xa xi (xa (xblt c_len (by rfl) n_len bo_len (xa (xv 0) xa0)) xa0))) xa0))) xa0)) (xg (i := 1) sc_law.nd rfl (Or.inl rfl))
  (xsc (xset (i := 2) sc_law.nd rfl (Or.inr rfl) (xcall F__law_well (hr.mono (by decide)) (by rfl) m__law_well k__law_well b__law_well (xa (xv 0) (xa (xv 1) xa0))))
  (xsc (xasg (xtup (xa (xcall F__law_body (hr.mono (by decide)) (by rfl) m__law_body k__law_body b__law_body (xa (xv 2) (xa (xix ix_any (xlst (xa xi (xa xi xa0))) (xcall F__law_take (hr.mono (by decide)) (by rfl) m__law_take k__law_take b__law_take (xa (xv 2) (xa xi xa0)))) xa0))) (xa xdct0 xa0))) (xgt rfl (xgs (xg (i := 3) sc_law.nd rfl (Or.inr rfl)) (xgs (xg (i := 4) sc_law.nd rfl (Or.inl rfl)) xg0))))
  (xsc (xfor PassesOwn.never rfl (xirng1 (by rfl) n_range (xa (xcall F__law_take (hr.mono (by decide)) (by rfl) m__law_take k__law_take b__law_take (xa (xv 2) (xa xi xa0))) xa0)) (xg (i := 5) sc_law.nd rfl (Or.inl rfl))
  (xs1 (xasg xb (xgsub (xv 4) (xtup (xa (xcall F__law_take (hr.mono (by decide)) (by rfl) m__law_take k__law_take b__law_take (xa (xv 2) (xa xi xa0))) (xa (xcall F__law_take (hr.mono (by decide)) (by rfl) m__law_take k__law_take b__law_take (xa (xv 2) (xa xi xa0))) (xa (xcall F__law_take (hr.mono (by decide)) (by rfl) m__law_take k__law_take b__law_take (xa (xv 2) (xa xi xa0))) xa0)))) (st_dct hu)))))
  (xsc (xset (i := 4) sc_law.nd rfl (Or.inl rfl) (xbty c_tup (by rfl) n_tuple bo_tuple (xa (xblt (c_sort hu) (by rfl) n_sorted bo_sorted (xa (xlockE (xlc rfl sc_law.nd (xikeys (xv 4)) (blkOk_by (own := [("_law_cell", 9)]) (by kernel_rfl)) (fun _ _ _ _ _ => (xg (i := 9) sc_law.nd rfl (Or.inl rfl))) (fun _ _ _ _ _ => (xt1 (xtcmp (o_notIn hu) (xv 9) (xv 3) (by rfl)))) (fun _ _ _ _ _ => (xv 9)) (by decide))) xa0)) xa0)))
  (xsc (xset (i := 6) sc_law.nd rfl (Or.inl rfl) (xcall F__law_drawn (hr.mono (by decide)) (by rfl) m__law_drawn k__law_drawn b__law_drawn (xa (xv 3) (xa (xv 4) xa0))))
  (xsc (xsif (xwp (xo (xtcmp (o_ne hu) (xcallK (n := 1) (ks := ["props"]) Fk_drawn (hr.mono (by decide)) (by rfl) mk_drawn kk_drawn kb_drawn (fun _ _ _ _ _ h1 h2 => h1.append h2) (xa (xv 3) xa0) (xk (xv 4) xk0)) (xv 6) (by rfl)) (xo1 (xtcmp (o_ne hu) (xcall F_read_drawn (hr.mono (by decide)) (by rfl) m_read_drawn k_read_drawn b_read_drawn (xa (xv 6) xa0)) (xtup (xa (xv 3) (xa (xv 4) xa0))) (by rfl))))) (xs1 (xret xb)) xs0)
  (xsc (xsif (xtcmp (o_ne hu) (xcallD Fd_drawn (hr.mono (by decide)) (by rfl) md_drawn kd_drawn bd_drawn bv_drawn bt_drawn (xa (xv 3) xa0)) (xcall F__law_drawn (hr.mono (by decide)) (by rfl) m__law_drawn k__law_drawn b__law_drawn (xa (xv 3) (xa (xtup xa0) xa0))) (by rfl)) (xs1 (xret xb)) xs0)
  (xsc (xsetLc rfl sc_law.nd (i := 7) rfl rfl (by rfl) (xirng1 (by rfl) n_range (xa (xcall F__law_take (hr.mono (by decide)) (by rfl) m__law_take k__law_take b__law_take (xa (xv 2) (xa xi xa0))) xa0)) (blkOk_by (own := [("_law_turn", 5)]) (by kernel_rfl)) (fun _ _ _ _ _ => (xg (i := 5) sc_law.nd rfl (Or.inl rfl))) (fun _ _ _ _ _ => xt0) (fun _ _ _ _ _ => (xcall F__law_row (hr.mono (by decide)) (by rfl) m__law_row k__law_row b__law_row (xa (xv 2) xa0))) (by decide))
  (xsc (xsetLc rfl sc_law.nd (i := 7) rfl rfl (by rfl) (xiseq (xv 7)) (blkOk_by (own := [("_law_row_here", 10)]) (by kernel_rfl)) (fun _ _ _ _ _ => (xg (i := 10) sc_law.nd rfl (Or.inl rfl))) (fun _ _ _ _ _ => (xt1 (xtv (xcall F__law_is_row (hr.mono (by decide)) (by rfl) m__law_is_row k__law_is_row b__law_is_row (xa (xv 10) xa0))))) (fun _ _ _ _ _ => (xv 10)) (by decide))
  (xs1 (xfor PassesOwn.never rfl (xiseq (xlst (xa (xv 7) (xa (xlst xa0) (xa (xlst (xa (xtup (xa xs (xa xi xa0))) (xa (xtup (xa xs xa0)) (xa (xtup (xa xs (xa xi (xa xi xa0)))) xa0)))) xa0))))) (xg (i := 8) sc_law.nd rfl (Or.inl rfl))
  (xs1 (xsif (xwp (xo (xtcmp (o_ne hu) (xcall F_rows_text (hr.mono (by decide)) (by rfl) m_rows_text k_rows_text b_rows_text (xa (xv 8) xa0)) (xcall F__law_rows_text (hr.mono (by decide)) (by rfl) m__law_rows_text k__law_rows_text b__law_rows_text (xa (xv 8) xa0)) (by rfl)) (xo1 (xtcmp (o_ne hu) (xcall F_read_rows (hr.mono (by decide)) (by rfl) m_read_rows k_read_rows b_read_rows (xa (xcall F__law_rows_text (hr.mono (by decide)) (by rfl) m__law_rows_text k__law_rows_text b__law_rows_text (xa (xv 8) xa0)) xa0)) (xv 8) (by rfl))))) (xs1 (xret xb)) xs0))))))))))))))
  (xs1 (xret xb)))
end
def d_is_int : He.DefD := ⟨("is_int", none), "is_int", "is_int", defArgs s_is_int, defBody s_is_int, defScope s_is_int, [], []⟩
def d_is_whole : He.DefD := ⟨("is_whole", none), "is_whole", "is_whole", defArgs s_is_whole, defBody s_is_whole, defScope s_is_whole, [], []⟩
def d_is_tuple : He.DefD := ⟨("is_tuple", none), "is_tuple", "is_tuple", defArgs s_is_tuple, defBody s_is_tuple, defScope s_is_tuple, [], []⟩
def d_rising : He.DefD := ⟨("rising", none), "rising", "rising", defArgs s_rising, defBody s_rising, defScope s_rising, [], []⟩
def d_is_cell : He.DefD := ⟨("is_cell", none), "is_cell", "is_cell", defArgs s_is_cell, defBody s_is_cell, defScope s_is_cell, [], []⟩
def d_are_cells : He.DefD := ⟨("are_cells", none), "are_cells", "are_cells", defArgs s_are_cells, defBody s_are_cells, defScope s_are_cells, [], []⟩
def d_is_body : He.DefD := ⟨("is_body", none), "is_body", "is_body", defArgs s_is_body, defBody s_is_body, defScope s_is_body, [], []⟩
def d_is_row : He.DefD := ⟨("is_row", none), "is_row", "is_row", defArgs s_is_row, defBody s_is_row, defScope s_is_row, [], []⟩
def d_sign_at : He.DefD := ⟨("sign_at", none), "sign_at", "sign_at", defArgs s_sign_at, defBody s_sign_at, defScope s_sign_at, [], []⟩
def d_drawn : He.DefD := ⟨("drawn", none), "drawn", "drawn", defArgs s_drawn, defBody s_drawn, defScope s_drawn, [], [("props", .adr (kwAt "drawn" "props"))]⟩
def d_read_drawn : He.DefD := ⟨("read_drawn", none), "read_drawn", "read_drawn", defArgs s_read_drawn, defBody s_read_drawn, defScope s_read_drawn, [], []⟩
def d_rows_text : He.DefD := ⟨("rows_text", none), "rows_text", "rows_text", defArgs s_rows_text, defBody s_rows_text, defScope s_rows_text, [], []⟩
def d_number_at : He.DefD := ⟨("number_at", none), "number_at", "number_at", defArgs s_number_at, defBody s_number_at, defScope s_number_at, [], []⟩
def d_read_rows : He.DefD := ⟨("read_rows", none), "read_rows", "read_rows", defArgs s_read_rows, defBody s_read_rows, defScope s_read_rows, [], []⟩
def d__law_well : He.DefD := ⟨("_law_well", none), "_law_well", "_law_well", defArgs s__law_well, defBody s__law_well, defScope s__law_well, [], []⟩
def d__law_take : He.DefD := ⟨("_law_take", none), "_law_take", "_law_take", defArgs s__law_take, defBody s__law_take, defScope s__law_take, [], []⟩
def d__law_is_int : He.DefD := ⟨("_law_is_int", none), "_law_is_int", "_law_is_int", defArgs s__law_is_int, defBody s__law_is_int, defScope s__law_is_int, [], []⟩
def d__law_body : He.DefD := ⟨("_law_body", none), "_law_body", "_law_body", defArgs s__law_body, defBody s__law_body, defScope s__law_body, [], []⟩
def d__law_row : He.DefD := ⟨("_law_row", none), "_law_row", "_law_row", defArgs s__law_row, defBody s__law_row, defScope s__law_row, [], []⟩
def d__law_is_row : He.DefD := ⟨("_law_is_row", none), "_law_is_row", "_law_is_row", defArgs s__law_is_row, defBody s__law_is_row, defScope s__law_is_row, [], []⟩
def d__law_drawn : He.DefD := ⟨("_law_drawn", none), "_law_drawn", "_law_drawn", defArgs s__law_drawn, defBody s__law_drawn, defScope s__law_drawn, [], []⟩
def d__law_rows_text : He.DefD := ⟨("_law_rows_text", none), "_law_rows_text", "_law_rows_text", defArgs s__law_rows_text, defBody s__law_rows_text, defScope s__law_rows_text, [], []⟩
def d_law : He.DefD := ⟨("law", none), "law", "law", defArgs s_law, defBody s_law, defScope s_law, [], []⟩
def fnL : List He.DefD := [d_is_int, d_is_whole, d_is_tuple, d_rising, d_is_cell, d_are_cells, d_is_body, d_is_row, d_sign_at, d_drawn, d_read_drawn, d_rows_text, d_number_at, d_read_rows, d__law_well, d__law_take, d__law_is_int, d__law_body, d__law_row, d__law_is_row, d__law_drawn, d__law_rows_text, d_law]
def faL : List He.Fa := [.glo "is_int", .glo "is_whole", .glo "is_tuple", .glo "rising", .glo "is_cell", .glo "are_cells", .glo "is_body", .glo "is_row", .glo "PARTS", .glo "sign_at", .glo "drawn", .glo "read_drawn", .glo "rows_text", .glo "number_at", .glo "read_rows", .glo "_law_well", .glo "_law_take", .glo "_law_is_int", .glo "_law_body", .glo "_law_row", .glo "_law_is_row", .glo "_law_drawn", .glo "_law_rows_text", .glo "law", .free "isinstance", .free "bool", .free "int", .free "len", .free "tuple", .free "all", .free "range", .free "str", .free "max", .free "enumerate", .free "list", .free "sorted", .free "zip", .free "min", .int "TOP" 7, .int "EDGE" 9, .int "MOST_CELLS" 200, .int "MOST_WAIT" 1000, .int "WIDE" 10, .int "MOST_FIGURES" 4, .str "BETWEEN" "---", .str "FIGURES" "0123456789"]
def tsL : List He.Tab := [(fun K => He.ga K "PARTS", tab_PARTS.map (·.1))]
def exL (K : PySem.W.Frag) : Bool := tabB2 K (He.ga K "PARTS") tab_PARTS && tup0 K (kwAt "drawn" "props" K)
def looseN0 : List Str := ["MOST_CELLS", "TOP", "EDGE", "is_int", "is_whole", "is_tuple", "rising", "is_cell", "are_cells", "is_body", "BodyError", "NoText", "PARTS", "MOST_WAIT", "is_row", "FIGURES", "MOST_FIGURES", "WIDE", "BETWEEN", "sign_at", "drawn", "read_drawn", "rows_text", "number_at", "read_rows", "_law_well", "_law_take", "_law_is_int", "_law_body", "_law_row"]
def looseN1 : List Str := ["_law_is_row", "_law_drawn", "_law_rows_text"]
def looseN : List Str := looseN0 ++ looseN1
abbrev RL : PySem.W.OpenRow := PySem.W.OpenLaw.row PySem.Challenge.rw_layerbody_k51_whole_texts_there_and_back
abbrev hkL : PySem.W.Hook := He.hookX 5 faL fnL tsL [] exL
def obL (s : PySem.W.SharedT) : He.AlX := He.obsX 5 faL fnL tsL [] exL (HandSHeadRun.getT s)
theorem obL_eq (s : PySem.W.SharedT) : obL s = hkL.obs s.abs := He.obsX_eq (HandSHeadRun.getT_eq s)
theorem runL (w : World) : HandSHeadRun.RunEq RL (PySem.W.view RL.prog [38]) hkL obL 4000 looseN w :=
  PySem.W.byRow2 "special-get-raises" (P := fun w => HandSHeadRun.RunEq RL (PySem.W.view RL.prog [38]) hkL obL 4000 looseN w) (fun w os => by kernel_rfl) (fun w os => by kernel_rfl) w
theorem factsL {P : Program} {w : World} {K : PySem.W.Frag} {h h0 : Heap} {mg : Str → Option Value} {f : Addr} (X : K.In h) (G : h.Ns mainGlobals mg) (hfa : mg ("law" : Str) = some (.ref f)) (c : He.SaysX faL fnL tsL [] exL w h0 K) :
    ∃ fd : FuncData, (∀ (s : Shared) (v : Value), BindsTo s fd ⟨[v], []⟩ [("_law_script", v)]) ∧ ∀ base : Heap, K.In base → base.Ns mainGlobals mg → FnOk P w K mg base CX0 7 f fd ["_law_script"] (lSp0 P w K sp_law) := by
  have fact : ∀ (i : Nat) {f : He.Fa}, faL[i]? = some f → f.ok K = true := fun i f h => c.t.d.fact i h
  have n_isinstance : mg "isinstance" = none := He.free_ok X G (fact 24 rfl)
  have n_bool : mg "bool" = none := He.free_ok X G (fact 25 rfl)
  have n_int : mg "int" = none := He.free_ok X G (fact 26 rfl)
  have n_len : mg "len" = none := He.free_ok X G (fact 27 rfl)
  have n_tuple : mg "tuple" = none := He.free_ok X G (fact 28 rfl)
  have n_all : mg "all" = none := He.free_ok X G (fact 29 rfl)
  have n_range : mg "range" = none := He.free_ok X G (fact 30 rfl)
  have n_str : mg "str" = none := He.free_ok X G (fact 31 rfl)
  have n_max : mg "max" = none := He.free_ok X G (fact 32 rfl)
  have n_enumerate : mg "enumerate" = none := He.free_ok X G (fact 33 rfl)
  have n_list : mg "list" = none := He.free_ok X G (fact 34 rfl)
  have n_sorted : mg "sorted" = none := He.free_ok X G (fact 35 rfl)
  have n_zip : mg "zip" = none := He.free_ok X G (fact 36 rfl)
  have n_min : mg "min" = none := He.free_ok X G (fact 37 rfl)
  have cg_TOP : ConG mg "TOP" c_TOP := by
    obtain ⟨t, e⟩ := He.int_ok X G (fact 38 rfl)
    exact ⟨_, .int _, e, ⟨t, rfl⟩, fun _ _ => .int _⟩
  have cg_EDGE : ConG mg "EDGE" c_EDGE := by
    obtain ⟨t, e⟩ := He.int_ok X G (fact 39 rfl)
    exact ⟨_, .int _, e, ⟨t, rfl⟩, fun _ _ => .int _⟩
  have cg_MOST_CELLS : ConG mg "MOST_CELLS" c_MOST_CELLS := by
    obtain ⟨t, e⟩ := He.int_ok X G (fact 40 rfl)
    exact ⟨_, .int _, e, ⟨t, rfl⟩, fun _ _ => .int _⟩
  have cg_MOST_WAIT : ConG mg "MOST_WAIT" c_MOST_WAIT := by
    obtain ⟨t, e⟩ := He.int_ok X G (fact 41 rfl)
    exact ⟨_, .int _, e, ⟨t, rfl⟩, fun _ _ => .int _⟩
  have cg_WIDE : ConG mg "WIDE" c_WIDE := by
    obtain ⟨t, e⟩ := He.int_ok X G (fact 42 rfl)
    exact ⟨_, .int _, e, ⟨t, rfl⟩, fun _ _ => .int _⟩
  have cg_MOST_FIGURES : ConG mg "MOST_FIGURES" c_MOST_FIGURES := by
    obtain ⟨t, e⟩ := He.int_ok X G (fact 43 rfl)
    exact ⟨_, .int _, e, ⟨t, rfl⟩, fun _ _ => .int _⟩
  have cg_BETWEEN : ConG mg "BETWEEN" c_BETWEEN := by
    obtain ⟨t, e⟩ := He.str_ok X G (fact 44 rfl)
    exact ⟨_, .str _, e, ⟨t, rfl⟩, fun _ _ => .str _⟩
  have cg_FIGURES : ConG mg "FIGURES" c_FIGURES := by
    obtain ⟨t, e⟩ := He.str_ok X G (fact 45 rfl)
    exact ⟨_, .str _, e, ⟨t, rfl⟩, fun _ _ => .str _⟩
  have cg_PARTS : TabG w K mg "PARTS" tab_PARTS := by
    exact tab_of c.t 0 rfl (He.glo_ok X G (fact 8 rfl)) (by have h := c.more; simp only [exL, Bool.and_eq_true] at h; first | exact h.1 | exact h.1.1 | exact h.1.1.1 | exact h)
  obtain ⟨fd_is_int, FF_is_int⟩ := c.t.d.def_ 0 (d := d_is_int) rfl
  have gg_is_int : mg "is_int" = some (.ref (He.ga K "is_int")) := He.glo_ok X G (fact 0 rfl)
  obtain ⟨fd_is_whole, FF_is_whole⟩ := c.t.d.def_ 1 (d := d_is_whole) rfl
  have gg_is_whole : mg "is_whole" = some (.ref (He.ga K "is_whole")) := He.glo_ok X G (fact 1 rfl)
  obtain ⟨fd_is_tuple, FF_is_tuple⟩ := c.t.d.def_ 2 (d := d_is_tuple) rfl
  have gg_is_tuple : mg "is_tuple" = some (.ref (He.ga K "is_tuple")) := He.glo_ok X G (fact 2 rfl)
  obtain ⟨fd_rising, FF_rising⟩ := c.t.d.def_ 3 (d := d_rising) rfl
  have gg_rising : mg "rising" = some (.ref (He.ga K "rising")) := He.glo_ok X G (fact 3 rfl)
  obtain ⟨fd_is_cell, FF_is_cell⟩ := c.t.d.def_ 4 (d := d_is_cell) rfl
  have gg_is_cell : mg "is_cell" = some (.ref (He.ga K "is_cell")) := He.glo_ok X G (fact 4 rfl)
  obtain ⟨fd_are_cells, FF_are_cells⟩ := c.t.d.def_ 5 (d := d_are_cells) rfl
  have gg_are_cells : mg "are_cells" = some (.ref (He.ga K "are_cells")) := He.glo_ok X G (fact 5 rfl)
  obtain ⟨fd_is_body, FF_is_body⟩ := c.t.d.def_ 6 (d := d_is_body) rfl
  have gg_is_body : mg "is_body" = some (.ref (He.ga K "is_body")) := He.glo_ok X G (fact 6 rfl)
  obtain ⟨fd_is_row, FF_is_row⟩ := c.t.d.def_ 7 (d := d_is_row) rfl
  have gg_is_row : mg "is_row" = some (.ref (He.ga K "is_row")) := He.glo_ok X G (fact 7 rfl)
  obtain ⟨fd_sign_at, FF_sign_at⟩ := c.t.d.def_ 8 (d := d_sign_at) rfl
  have gg_sign_at : mg "sign_at" = some (.ref (He.ga K "sign_at")) := He.glo_ok X G (fact 9 rfl)
  obtain ⟨fd_drawn, FF_drawn⟩ := c.t.d.def_ 9 (d := d_drawn) rfl
  have gg_drawn : mg "drawn" = some (.ref (He.ga K "drawn")) := He.glo_ok X G (fact 10 rfl)
  obtain ⟨fd_read_drawn, FF_read_drawn⟩ := c.t.d.def_ 10 (d := d_read_drawn) rfl
  have gg_read_drawn : mg "read_drawn" = some (.ref (He.ga K "read_drawn")) := He.glo_ok X G (fact 11 rfl)
  obtain ⟨fd_rows_text, FF_rows_text⟩ := c.t.d.def_ 11 (d := d_rows_text) rfl
  have gg_rows_text : mg "rows_text" = some (.ref (He.ga K "rows_text")) := He.glo_ok X G (fact 12 rfl)
  obtain ⟨fd_number_at, FF_number_at⟩ := c.t.d.def_ 12 (d := d_number_at) rfl
  have gg_number_at : mg "number_at" = some (.ref (He.ga K "number_at")) := He.glo_ok X G (fact 13 rfl)
  obtain ⟨fd_read_rows, FF_read_rows⟩ := c.t.d.def_ 13 (d := d_read_rows) rfl
  have gg_read_rows : mg "read_rows" = some (.ref (He.ga K "read_rows")) := He.glo_ok X G (fact 14 rfl)
  obtain ⟨fd__law_well, FF__law_well⟩ := c.t.d.def_ 14 (d := d__law_well) rfl
  have gg__law_well : mg "_law_well" = some (.ref (He.ga K "_law_well")) := He.glo_ok X G (fact 15 rfl)
  obtain ⟨fd__law_take, FF__law_take⟩ := c.t.d.def_ 15 (d := d__law_take) rfl
  have gg__law_take : mg "_law_take" = some (.ref (He.ga K "_law_take")) := He.glo_ok X G (fact 16 rfl)
  obtain ⟨fd__law_is_int, FF__law_is_int⟩ := c.t.d.def_ 16 (d := d__law_is_int) rfl
  have gg__law_is_int : mg "_law_is_int" = some (.ref (He.ga K "_law_is_int")) := He.glo_ok X G (fact 17 rfl)
  obtain ⟨fd__law_body, FF__law_body⟩ := c.t.d.def_ 17 (d := d__law_body) rfl
  have gg__law_body : mg "_law_body" = some (.ref (He.ga K "_law_body")) := He.glo_ok X G (fact 18 rfl)
  obtain ⟨fd__law_row, FF__law_row⟩ := c.t.d.def_ 18 (d := d__law_row) rfl
  have gg__law_row : mg "_law_row" = some (.ref (He.ga K "_law_row")) := He.glo_ok X G (fact 19 rfl)
  obtain ⟨fd__law_is_row, FF__law_is_row⟩ := c.t.d.def_ 19 (d := d__law_is_row) rfl
  have gg__law_is_row : mg "_law_is_row" = some (.ref (He.ga K "_law_is_row")) := He.glo_ok X G (fact 20 rfl)
  obtain ⟨fd__law_drawn, FF__law_drawn⟩ := c.t.d.def_ 20 (d := d__law_drawn) rfl
  have gg__law_drawn : mg "_law_drawn" = some (.ref (He.ga K "_law_drawn")) := He.glo_ok X G (fact 21 rfl)
  obtain ⟨fd__law_rows_text, FF__law_rows_text⟩ := c.t.d.def_ 21 (d := d__law_rows_text) rfl
  have gg__law_rows_text : mg "_law_rows_text" = some (.ref (He.ga K "_law_rows_text")) := He.glo_ok X G (fact 22 rfl)
  obtain ⟨fd_law, FF_law⟩ := c.t.d.def_ 22 (d := d_law) rfl
  have gg_law : mg "law" = some (.ref (He.ga K "law")) := He.glo_ok X G (fact 23 rfl)
  have e := hfa.symm.trans gg_law
  cases e
  have b := FunD.bindsA (ps := ["_law_script"]) FF_law fun _ _ _ _ _ _ us hl => match us, hl with | [_], _ => rfl
  refine ⟨fd_law, fun s v => b s [v] rfl, fun base _ _ => ?_⟩
  have FO_is_int : FnOk P w K mg base CX0 1 (He.ga K "is_int") fd_is_int ["thing"] (lSp0 P w K sp_is_int) := ok_is_int FF_is_int n_isinstance n_bool n_int
  have c_is_int : Cal P w K mg base "is_int" 1 ["thing"] sp_is_int := ⟨_, _, gg_is_int, FO_is_int, FF_is_int.kp, FF_is_int.bindsN fun _ _ _ _ _ _ us hl => match us, hl with | [_], _ => rfl⟩
  have FO_is_whole : FnOk P w K mg base CX0 2 (He.ga K "is_whole") fd_is_whole ["thing", "low", "high"] (lSp0 P w K sp_is_whole) := ok_is_whole FF_is_whole c_is_int
  have c_is_whole : Cal P w K mg base "is_whole" 2 ["thing", "low", "high"] sp_is_whole := ⟨_, _, gg_is_whole, FO_is_whole, FF_is_whole.kp, FF_is_whole.bindsN fun _ _ _ _ _ _ us hl => match us, hl with | [_, _, _], _ => rfl⟩
  have FO_is_tuple : FnOk P w K mg base CX0 1 (He.ga K "is_tuple") fd_is_tuple ["thing", "many"] (lSp0 P w K sp_is_tuple) := ok_is_tuple FF_is_tuple n_len n_isinstance n_tuple
  have c_is_tuple : Cal P w K mg base "is_tuple" 1 ["thing", "many"] sp_is_tuple := ⟨_, _, gg_is_tuple, FO_is_tuple, FF_is_tuple.kp, FF_is_tuple.bindsN fun _ _ _ _ _ _ us hl => match us, hl with | [_, _], _ => rfl⟩
  have FO_rising : FnOk P w K mg base CX0 1 (He.ga K "rising") fd_rising ["some"] (lSp0 P w K sp_rising) := ok_rising FF_rising n_all n_range n_len
  have c_rising : Cal P w K mg base "rising" 1 ["some"] sp_rising := ⟨_, _, gg_rising, FO_rising, FF_rising.kp, FF_rising.bindsN fun _ _ _ _ _ _ us hl => match us, hl with | [_], _ => rfl⟩
  have FO_is_cell : FnOk P w K mg base CX0 3 (He.ga K "is_cell") fd_is_cell ["thing"] (lSp0 P w K sp_is_cell) := ok_is_cell FF_is_cell c_is_whole c_is_tuple cg_TOP cg_EDGE
  have c_is_cell : Cal P w K mg base "is_cell" 3 ["thing"] sp_is_cell := ⟨_, _, gg_is_cell, FO_is_cell, FF_is_cell.kp, FF_is_cell.bindsN fun _ _ _ _ _ _ us hl => match us, hl with | [_], _ => rfl⟩
  have FO_are_cells : FnOk P w K mg base CX0 4 (He.ga K "are_cells") fd_are_cells ["thing"] (lSp0 P w K sp_are_cells) := ok_are_cells FF_are_cells c_rising c_is_cell n_all n_isinstance n_tuple
  have c_are_cells : Cal P w K mg base "are_cells" 4 ["thing"] sp_are_cells := ⟨_, _, gg_are_cells, FO_are_cells, FF_are_cells.kp, FF_are_cells.bindsN fun _ _ _ _ _ _ us hl => match us, hl with | [_], _ => rfl⟩
  have FO_is_body : FnOk P w K mg base CX0 5 (He.ga K "is_body") fd_is_body ["thing"] (lSp0 P w K sp_is_body) := ok_is_body FF_is_body c_are_cells n_len cg_MOST_CELLS
  have c_is_body : Cal P w K mg base "is_body" 5 ["thing"] sp_is_body := ⟨_, _, gg_is_body, FO_is_body, FF_is_body.kp, FF_is_body.bindsN fun _ _ _ _ _ _ us hl => match us, hl with | [_], _ => rfl⟩
  have FO_is_row : FnOk P w K mg base CX0 3 (He.ga K "is_row") fd_is_row ["thing"] (lSp0 P w K sp_is_row) := ok_is_row FF_is_row c_is_whole n_isinstance n_str n_len n_tuple cg_PARTS cg_EDGE cg_MOST_WAIT
  have c_is_row : Cal P w K mg base "is_row" 3 ["thing"] sp_is_row := ⟨_, _, gg_is_row, FO_is_row, FF_is_row.kp, FF_is_row.bindsN fun _ _ _ _ _ _ us hl => match us, hl with | [_], _ => rfl⟩
  have FO_sign_at : FnOk P w K mg base CX0 1 (He.ga K "sign_at") fd_sign_at ["body", "props", "cell"] (lSp0 P w K sp_sign_at) := ok_sign_at FF_sign_at 
  have c_sign_at : Cal P w K mg base "sign_at" 1 ["body", "props", "cell"] sp_sign_at := ⟨_, _, gg_sign_at, FO_sign_at, FF_sign_at.kp, FF_sign_at.bindsN fun _ _ _ _ _ _ us hl => match us, hl with | [_, _, _], _ => rfl⟩
  have FO_drawn : FnOk P w K mg base CX0 2 (He.ga K "drawn") fd_drawn ["body", "props"] (lSp0 P w K sp_drawn) := ok_drawn FF_drawn c_sign_at n_range n_max cg_BETWEEN cg_WIDE
  have ck_drawn : CalK P w K mg base "drawn" 2 1 ["props"] sp_drawn := ⟨_, _, _, _, gg_drawn, FO_drawn, FF_drawn.kp, kbn_of FF_drawn fun D doc pm an cdv ct us ws h1 h2 => match us, h1, ws, h2 with | [_], _, [_], _ => rfl⟩
  have cd_drawn : CalD P w K mg base "drawn" 2 sp_drawn dfl_drawn := by
    obtain ⟨ds, hv, hb⟩ := FF_drawn.binds0 1 (ps := ["body", "props"]) (List.cons_ne_nil _ _) rfl fun D doc pm an cdv ct us ks h1 h2 => match us, h1, ks, h2 with
      | [_], _, [_], _ => ⟨_, _, _, _, _, _, rfl, rfl, rfl⟩
    exact ⟨_, _, _, ds, _, gg_drawn, FO_drawn, FF_drawn.kp, hb, hv, fun H => .cons (tup0_ok (by have h := c.more; simp only [exL, Bool.and_eq_true] at h; first | exact h.2 | exact h)) .nil⟩
  have FO_read_drawn : FnOk P w K mg base CX0 6 (He.ga K "read_drawn") fd_read_drawn ["text"] (lSp0 P w K sp_read_drawn) := ok_read_drawn FF_read_drawn c_is_body ck_drawn n_isinstance n_str n_len n_enumerate n_tuple cg_WIDE cg_TOP
  have c_read_drawn : Cal P w K mg base "read_drawn" 6 ["text"] sp_read_drawn := ⟨_, _, gg_read_drawn, FO_read_drawn, FF_read_drawn.kp, FF_read_drawn.bindsN fun _ _ _ _ _ _ us hl => match us, hl with | [_], _ => rfl⟩
  have FO_rows_text : FnOk P w K mg base CX0 1 (He.ga K "rows_text") fd_rows_text ["rows"] (lSp0 P w K sp_rows_text) := ok_rows_text FF_rows_text n_str
  have c_rows_text : Cal P w K mg base "rows_text" 1 ["rows"] sp_rows_text := ⟨_, _, gg_rows_text, FO_rows_text, FF_rows_text.kp, FF_rows_text.bindsN fun _ _ _ _ _ _ us hl => match us, hl with | [_], _ => rfl⟩
  have FO_number_at : FnOk P w K mg base CX0 1 (He.ga K "number_at") fd_number_at ["word"] (lSp0 P w K sp_number_at) := ok_number_at FF_number_at n_all n_len n_int cg_FIGURES cg_MOST_FIGURES
  have c_number_at : Cal P w K mg base "number_at" 1 ["word"] sp_number_at := ⟨_, _, gg_number_at, FO_number_at, FF_number_at.kp, FF_number_at.bindsN fun _ _ _ _ _ _ us hl => match us, hl with | [_], _ => rfl⟩
  have FO_read_rows : FnOk P w K mg base CX0 4 (He.ga K "read_rows") fd_read_rows ["text"] (lSp0 P w K sp_read_rows) := ok_read_rows FF_read_rows c_number_at c_is_row n_isinstance n_str n_tuple
  have c_read_rows : Cal P w K mg base "read_rows" 4 ["text"] sp_read_rows := ⟨_, _, gg_read_rows, FO_read_rows, FF_read_rows.kp, FF_read_rows.bindsN fun _ _ _ _ _ _ us hl => match us, hl with | [_], _ => rfl⟩
  have FO__law_well : FnOk P w K mg base CX0 1 (He.ga K "_law_well") fd__law_well ["_law_script", "_law_k"] (lSp0 P w K sp__law_well) := ok__law_well FF__law_well n_len
  have c__law_well : Cal P w K mg base "_law_well" 1 ["_law_script", "_law_k"] sp__law_well := ⟨_, _, gg__law_well, FO__law_well, FF__law_well.kp, FF__law_well.bindsN fun _ _ _ _ _ _ us hl => match us, hl with | [_, _], _ => rfl⟩
  have FO__law_take : FnOk P w K mg base CX0 1 (He.ga K "_law_take") fd__law_take ["_law_well_here", "_law_many"] (lSp0 P w K sp__law_take) := ok__law_take FF__law_take 
  have c__law_take : Cal P w K mg base "_law_take" 1 ["_law_well_here", "_law_many"] sp__law_take := ⟨_, _, gg__law_take, FO__law_take, FF__law_take.kp, FF__law_take.bindsN fun _ _ _ _ _ _ us hl => match us, hl with | [_, _], _ => rfl⟩
  have FO__law_is_int : FnOk P w K mg base CX0 1 (He.ga K "_law_is_int") fd__law_is_int ["_law_thing", "_law_low", "_law_high"] (lSp0 P w K sp__law_is_int) := ok__law_is_int FF__law_is_int n_isinstance n_bool n_int
  have c__law_is_int : Cal P w K mg base "_law_is_int" 1 ["_law_thing", "_law_low", "_law_high"] sp__law_is_int := ⟨_, _, gg__law_is_int, FO__law_is_int, FF__law_is_int.kp, FF__law_is_int.bindsN fun _ _ _ _ _ _ us hl => match us, hl with | [_, _, _], _ => rfl⟩
  have FO__law_body : FnOk P w K mg base CX0 2 (He.ga K "_law_body") fd__law_body ["_law_well_here", "_law_high"] (lSp0 P w K sp__law_body) := ok__law_body FF__law_body c__law_take n_range n_list n_tuple n_sorted
  have c__law_body : Cal P w K mg base "_law_body" 2 ["_law_well_here", "_law_high"] sp__law_body := ⟨_, _, gg__law_body, FO__law_body, FF__law_body.kp, FF__law_body.bindsN fun _ _ _ _ _ _ us hl => match us, hl with | [_, _], _ => rfl⟩
  have FO__law_row : FnOk P w K mg base CX0 2 (He.ga K "_law_row") fd__law_row ["_law_well_here"] (lSp0 P w K sp__law_row) := ok__law_row FF__law_row c__law_take
  have c__law_row : Cal P w K mg base "_law_row" 2 ["_law_well_here"] sp__law_row := ⟨_, _, gg__law_row, FO__law_row, FF__law_row.kp, FF__law_row.bindsN fun _ _ _ _ _ _ us hl => match us, hl with | [_], _ => rfl⟩
  have FO__law_is_row : FnOk P w K mg base CX0 2 (He.ga K "_law_is_row") fd__law_is_row ["_law_row_here"] (lSp0 P w K sp__law_is_row) := ok__law_is_row FF__law_is_row c__law_is_int n_isinstance n_str n_len n_tuple n_zip
  have c__law_is_row : Cal P w K mg base "_law_is_row" 2 ["_law_row_here"] sp__law_is_row := ⟨_, _, gg__law_is_row, FO__law_is_row, FF__law_is_row.kp, FF__law_is_row.bindsN fun _ _ _ _ _ _ us hl => match us, hl with | [_], _ => rfl⟩
  have FO__law_drawn : FnOk P w K mg base CX0 1 (He.ga K "_law_drawn") fd__law_drawn ["_law_body_here", "_law_stays"] (lSp0 P w K sp__law_drawn) := ok__law_drawn FF__law_drawn n_max n_range n_int
  have c__law_drawn : Cal P w K mg base "_law_drawn" 1 ["_law_body_here", "_law_stays"] sp__law_drawn := ⟨_, _, gg__law_drawn, FO__law_drawn, FF__law_drawn.kp, FF__law_drawn.bindsN fun _ _ _ _ _ _ us hl => match us, hl with | [_, _], _ => rfl⟩
  have FO__law_rows_text : FnOk P w K mg base CX0 1 (He.ga K "_law_rows_text") fd__law_rows_text ["_law_rows"] (lSp0 P w K sp__law_rows_text) := ok__law_rows_text FF__law_rows_text n_str
  have c__law_rows_text : Cal P w K mg base "_law_rows_text" 1 ["_law_rows"] sp__law_rows_text := ⟨_, _, gg__law_rows_text, FO__law_rows_text, FF__law_rows_text.kp, FF__law_rows_text.bindsN fun _ _ _ _ _ _ us hl => match us, hl with | [_], _ => rfl⟩
  exact ok_law FF_law c__law_well c__law_body c__law_take c__law_drawn c_read_drawn c__law_row c__law_is_row c_read_rows c__law_rows_text c_rows_text ck_drawn cd_drawn n_range n_max n_min n_len n_tuple n_sorted
end TL
open PySem PySem.W PySem.Calls PyProof.Rows
theorem PySem.Challenge.cw_layerbody_k51_whole_texts_there_and_back_holds : PySem.Challenge.rw_layerbody_k51_whole_texts_there_and_back.Holds := by
  w_on; o_law
  refine HandSHeadRun.head_any (r := OpenLaw.row PySem.Challenge.rw_layerbody_k51_whole_texts_there_and_back) (q := view (OpenLaw.row PySem.Challenge.rw_layerbody_k51_whole_texts_there_and_back).prog [38]) (H := TL.hkL) (ob := TL.obL) (M := 4000) (loose := TL.looseN) (d := HandSHeadRun.topDef (OpenLaw.row PySem.Challenge.rw_layerbody_k51_whole_texts_there_and_back).prog 38) (kwd := []) TL.obL_eq
    (by kernel_rfl) (fun s => by kernel_rfl) TL.runL (by kernel_rfl) (by kernel_rfl) (by kernel_rfl) (by rfl) (by first | assumption | decide +kernel) (by decide +kernel) ⟨rfl, rfl, rfl, rfl, rfl, by decide +kernel⟩ ?hw ?hc
  case hw => w_witness2
  case hc =>
    refine L2.walk_ofE (l := PySem.Challenge.rw_layerbody_k51_whole_texts_there_and_back) (n := 63) (k := 7) (x := "_law_script") (CX := L2.CX0) rfl (by decide) (by kernel_rfl) ⟨rfl, by decide, by decide⟩ ?F (fun _ _ _ _ z => z)
    intro w mg fa h Y G hmg0
    obtain ⟨K, KX, c⟩ := Y
    have hmg : mg ("law" : PySem.Str) = some (.ref fa) := by
      have e : (HandSHeadRun.topDef (OpenLaw.row PySem.Challenge.rw_layerbody_k51_whole_texts_there_and_back).prog 38).name = ("law" : PySem.Str) := by kernel_rfl
      rw [← e]
      exact hmg0
    obtain ⟨fd, hb, hF⟩ := TL.factsL (P := (PySem.Challenge.rw_layerbody_k51_whole_texts_there_and_back).prog) (w := w) KX G hmg c
    exact ⟨K, fd, _, KX, hb, fun H a ns hl hO hS => TL.law_start (fun Q q => ⟨ns, rfl, hl, q⟩) hO hS, hF⟩

