import PyProof.Rows.All
import Wide.All
import OpenK.AllK
import Wide.FinOn
import PyProof.EqAt
import PyProof.EqKinds
import PyProof.TupleCall
import KE.DataCmp
import KE.KDictKeyed
import KE.KeyNested
import KE.KDictWalk
import KE.KDictPairs
import KE.KDictDisplayH
import HandS.Dict
import HandS.Iter
import HandS.DictComp
import HandS.ForMost
import HandS.ForExc
import HandS.Deep
import HandS.Zip
import HandS.AnyAll
import HandS.IsInst
import HandS.Conv
import HandS.TupAny
import HandS.SortOrd
import HandS.Walk
import HandS.GenOver
import HandS.GenList
import KE.SortData
import PyProof.P3In
import HandS.Style
import HandS.TupMul
import HandS.Text
import HandS.Wide
import HandS.More
import HandS.Small
import KE.GoesEnum
import HandS.Words
import HandS.WordsExc
import HandS.EndTab
import HandS.HeadHook4
import HandS.HeadWalk
import HandS.Set
import HandS.SetFor
import HandS.Strs
import HandS.TupSets
import HandS.Head0
import HandS.Head1
import HandS.Head2
import HandS.HeadEnd
import PySem.Challenge.RW_pairclubs_k04_whole_shares
set_option Elab.async false
set_option linter.all false
set_option autoImplicit false
set_option maxRecDepth 100000
set_option maxHeartbeats 0
/-! The data layer 0: dicts whose keys are tuples of ints, nested. -/
namespace DL
open PySem PySem.Spec L2
abbrev NK := NestedKey
mutual
def noText : NK → Bool
  | .num _ => true
  | .tup ks => noTexts ks
  | _ => false
def noTexts : List NK → Bool
  | [] => true
  | k :: r => noText k && noTexts r
end
mutual
theorem hash_any (w w' : World) : ∀ {k : NK}, noText k = true → k.hash w = k.hash w'
  | .num _, _ => rfl
  | .tup ks, h => by
    rw [NestedKey.hash, NestedKey.hash, hashes_any w w' (by simpa [noText] using h)]
  | .none, h => by simp [noText] at h
  | .text _, h => by simp [noText] at h
theorem hashes_any (w w' : World) : ∀ {ks : List NK}, noTexts ks = true → NestedKey.hashes w ks = NestedKey.hashes w' ks
  | [], _ => rfl
  | k :: r, h => by
    simp only [noTexts, Bool.and_eq_true] at h
    rw [NestedKey.hashes, NestedKey.hashes, hash_any w w' h.1, hashes_any w w' h.2]
end
mutual
/-- a key in the abstract heap -/
inductive Kv (H : Hp) : NK → V → Prop
  | num (i : Int) : Kv H (.num i) (.int i)
  | tup {a : Addr} {vs : List V} {ks : List NK} : H a = some (.tup vs) → KvA H ks vs → Kv H (.tup ks) (.ref a)
inductive KvA (H : Hp) : List NK → List V → Prop
  | nil : KvA H [] []
  | cons {k : NK} {v : V} {ks : List NK} {vs : List V} : Kv H k v → KvA H ks vs → KvA H (k :: ks) (v :: vs)
end
section
variable {X : Cx} {pins : List (Addr × Obj)} {σ : L2.St} {H : Hp} {s : Shared} {A : Around} {E : Value → Shared → Prop}
mutual
theorem Kv.is (I : Inv X pins σ H s) : ∀ {k : NK} {v : V} {u : Value}, Kv H k v → RelV v u → NestedIs s.heap k u
  | _, _, _, .num i, r => by
    obtain ⟨t, e⟩ := r
    rw [e]
    exact .int i t
  | _, _, _, .tup h t, r => by
    cases r
    obtain ⟨its, rv, ⟨o, ho, hc, n, hd⟩, _⟩ := I.tuple (.of h)
    exact .tup ho hc hd (KvA.is I t (by simpa using rv))
theorem KvA.is (I : Inv X pins σ H s) : ∀ {ks : List NK} {vs : List V} {us : List Value}, KvA H ks vs → Vals vs us → NestedAll s.heap ks us
  | _, _, _, .nil, r => by cases r; exact .nil
  | _, _, _, .cons h t, r => by
    cases r with
    | cons r1 r2 => exact .cons (Kv.is I h r1) (KvA.is I t r2)
end
abbrev DE := NK × Addr × V
/-- one dict's object, its entries -/
structure DObj (o : Obj) (es : List DE) : Prop where
  ex : o.ExactDict
  dat : ∃ (ents : Array DictEntry) (ep : Nat) (xs : List (NK × Addr × Value)), o.data = .dict ents ep ∧ (∀ w : World, ents.toList = xs.map fun x => (⟨x.1.hash w, .ref x.2.1, x.2.2⟩ : DictEntry)) ∧
    Paired (fun (p : DE) (q : NK × Addr × Value) => p.1 = q.1 ∧ p.2.1 = q.2.1 ∧ RelV p.2.2 q.2.2) es xs ∧ (xs.map (·.1)).Nodup
  ok : ∀ x ∈ es, noText x.1 = true ∧ x.1.depth ≤ 8
  sz : es.length ≤ sizeLine
def DNo (a : Addr) (o : Obj) : HO := .ext fun h => h.get? a = some o ∧ (a == sysModules) = false
def eget (es : List DE) (k : NK) : Option V := (es.find? fun e => decide (e.1 = k)).map (·.2.2)
def eput (es : List DE) (k : NK) (a : Addr) (v : V) : List DE := if (es.any fun e => decide (e.1 = k)) = true then es.map (fun e => if e.1 = k then (e.1, e.2.1, v) else e) else es ++ [(k, a, v)]
theorem eput_length (es : List DE) (k : NK) (a : Addr) (v : V) : (eput es k a v).length ≤ es.length + 1 := by
  unfold eput
  split <;> simp
theorem paired_find {es : List DE} {xs : List (NK × Addr × Value)} (h : Paired (fun (p : DE) (q : NK × Addr × Value) => p.1 = q.1 ∧ p.2.1 = q.2.1 ∧ RelV p.2.2 q.2.2) es xs) (k : NK) :
    (es.find? (fun e => decide (e.1 = k)) = none ∧ atKey xs k = none) ∨ ∃ (e : DE) (x : NK × Addr × Value), es.find? (fun e => decide (e.1 = k)) = some e ∧ atKey xs k = some x.2 ∧ RelV e.2.2 x.2.2 ∧ e.2.1 = x.2.1 := by
  induction h with
  | nil => exact .inl ⟨rfl, rfl⟩
  | @cons p q ps qs h t ih =>
    obtain ⟨e1, e2, e3⟩ := h
    by_cases hk : p.1 = k
    · refine .inr ⟨p, q, by simp [List.find?_cons, hk], ?_, e3, e2⟩
      simp [atKey, List.find?_cons, ← e1, hk]
    · have hq : ¬ q.1 = k := fun z => hk (e1.trans z)
      simp only [atKey, List.find?_cons, hk, hq, decide_false] at ih ⊢
      exact ih
theorem paired_map {es : List DE} {xs : List (NK × Addr × Value)} (h : Paired (fun (p : DE) (q : NK × Addr × Value) => p.1 = q.1 ∧ p.2.1 = q.2.1 ∧ RelV p.2.2 q.2.2) es xs) (k : NK) {v : V} {r : Value} (rv : RelV v r) :
    Paired (fun (p : DE) (q : NK × Addr × Value) => p.1 = q.1 ∧ p.2.1 = q.2.1 ∧ RelV p.2.2 q.2.2) (es.map fun e => if e.1 = k then (e.1, e.2.1, v) else e) (xs.map (putAt k r)) := by
  induction h with
  | nil => exact .nil
  | @cons p q ps qs h t ih =>
    obtain ⟨e1, e2, e3⟩ := h
    refine .cons ?_ ih
    unfold putAt
    simp only
    by_cases hk : p.1 = k
    · rw [if_pos hk, if_pos (e1 ▸ hk)]
      exact ⟨e1, e2, rv⟩
    · rw [if_neg hk, if_neg (fun z => hk (e1.trans z))]
      exact ⟨e1, e2, e3⟩
theorem paired_snoc {es : List DE} {xs : List (NK × Addr × Value)} (h : Paired (fun (p : DE) (q : NK × Addr × Value) => p.1 = q.1 ∧ p.2.1 = q.2.1 ∧ RelV p.2.2 q.2.2) es xs) (k : NK) (a : Addr) {v : V} {r : Value} (rv : RelV v r) :
    Paired (fun (p : DE) (q : NK × Addr × Value) => p.1 = q.1 ∧ p.2.1 = q.2.1 ∧ RelV p.2.2 q.2.2) (es ++ [(k, a, v)]) (xs ++ [(k, a, r)]) := by
  induction h with
  | nil => exact .cons ⟨rfl, rfl, rv⟩ .nil
  | cons h t ih => exact .cons h ih
theorem any_find (es : List DE) (k : NK) : (es.any fun e => decide (e.1 = k)) = (es.find? fun e => decide (e.1 = k)).isSome := by
  induction es with
  | nil => rfl
  | cons e r ih =>
    by_cases h : e.1 = k
    · simp [List.find?_cons, h]
    · simp only [List.any_cons, List.find?_cons, h, decide_false, Bool.false_or]; exact ih
theorem DNo.heap {a : Addr} {o : Obj} (I : Inv X pins σ H s) (h : H a = some (DNo a o)) : s.heap.get? a = some o ∧ (a == sysModules) = false := by
  obtain ⟨p, _⟩ := (show ObjOk X.prog X.w H s.heap a (DNo a o) from I.hok a _ h)
  exact p
/-- what the heap's rules read -/
def KeysAre (H : Hp) (es : List DE) : Prop := ∀ x ∈ es, Kv H x.1 (.ref x.2.1)
theorem paired_mem {α β : Type} {F : α → β → Prop} {l : List α} {m : List β} (h : Paired F l m) {y : β} (hy : y ∈ m) : ∃ x ∈ l, F x y := by
  induction h with
  | nil => cases hy
  | cons h t ih =>
    rcases List.mem_cons.mp hy with rfl | hy
    · exact ⟨_, List.mem_cons_self, h⟩
    · obtain ⟨x, hx, k⟩ := ih hy
      exact ⟨x, List.mem_cons_of_mem _ hx, k⟩
theorem DObj.of {a : Addr} {o : Obj} {es : List DE} (I : Inv X pins σ H s) (h : H a = some (DNo a o)) (d : DObj o es) (ks : KeysAre H es) : ∃ xs : List (NK × Addr × Value),
    Paired (fun (p : DE) (q : NK × Addr × Value) => p.1 = q.1 ∧ p.2.1 = q.2.1 ∧ RelV p.2.2 q.2.2) es xs ∧ s.heap.DictOfH (nestedKind X.prog X.w) a xs ∧ xs.length = es.length := by
  obtain ⟨ents, ep, xs, hd, he, pr, nd⟩ := d.dat
  refine ⟨xs, pr, ⟨o, ents, ep, (DNo.heap I h).1, d.ex, hd, he X.w, fun x hx => ?_, nd⟩, (Paired.length pr).symm⟩
  obtain ⟨e, hm, e1, e2, _⟩ := paired_mem pr hx
  rw [← e1, ← e2]
  exact ⟨Kv.is I (ks e hm) rfl, (d.ok e hm).2⟩
theorem dn_get {Q : Value → Shared → Prop} {a b : Addr} {o : Obj} {es : List DE} {k : NK} {v : V} (hu : A.units + 10 < cLine) (I : Inv X pins σ H s) (h : H a = some (DNo a o)) (d : DObj o es) (ks : KeysAre H es) (hk : Kv H k (.ref b)) (hd : k.depth ≤ 8) (e : eget es k = some v)
    (hQ : ∀ w' s', Inv X pins σ H s' → RelV v w' → Q w' s') : wpAny (model X.prog X.w) A (getItem (.ref a) (.ref b)) Q E s := by
  obtain ⟨xs, pr, dd, _⟩ := d.of I h ks
  unfold eget at e
  rcases paired_find pr k with ⟨h1, h2⟩ | ⟨en, x, h1, h2, h3, _⟩
  · rw [h1] at e; cases e
  · rw [h1] at e
    cases e
    exact wpAny_getItem_heap (show A.in1.units + 8 < cLine by show A.units + 1 + 8 < cLine; omega) (show (nestedKind X.prog X.w).is s.heap k b from ⟨hk.is I rfl, hd⟩) dd h2 (hQ _ _ (I.tok _) h3)
theorem dn_in {Q : Value → Shared → Prop} {a b : Addr} {o : Obj} {es : List DE} {k : NK} (hu : A.units + 10 < cLine) (I : Inv X pins σ H s) (h : H a = some (DNo a o)) (d : DObj o es) (ks : KeysAre H es) (hk : Kv H k (.ref b)) (hd : k.depth ≤ 8)
    (hQ : ∀ s', Inv X pins σ H s' → Q (.bool (eget es k).isSome) s') : wpAny (model X.prog X.w) A (compareOp .In (.ref b) (.ref a)) Q E s := by
  obtain ⟨xs, pr, dd, _⟩ := d.of I h ks
  refine wpAny_in_heap (show A.in1.units + 8 < cLine by show A.units + 1 + 8 < cLine; omega) (show (nestedKind X.prog X.w).is s.heap k b from ⟨hk.is I rfl, hd⟩) (DNo.heap I h).2 dd ?_
  unfold eget at hQ
  rcases paired_find pr k with ⟨h1, h2⟩ | ⟨en, x, h1, h2, h3, _⟩
  · rw [h1] at hQ; rw [h2]; exact hQ _ (I.tok _)
  · rw [h1] at hQ; rw [h2]; exact hQ _ (I.tok _)
theorem dn_notIn {Q : Value → Shared → Prop} {a b : Addr} {o : Obj} {es : List DE} {k : NK} (hu : A.units + 10 < cLine) (I : Inv X pins σ H s) (h : H a = some (DNo a o)) (d : DObj o es) (ks : KeysAre H es) (hk : Kv H k (.ref b)) (hd : k.depth ≤ 8)
    (hQ : ∀ s', Inv X pins σ H s' → Q (.bool (!(eget es k).isSome)) s') : wpAny (model X.prog X.w) A (compareOp .NotIn (.ref b) (.ref a)) Q E s := by
  obtain ⟨xs, pr, dd, _⟩ := d.of I h ks
  refine PyProof.Rows.wpAny_notIn_heap (show A.in1.units + 8 < cLine by show A.units + 1 + 8 < cLine; omega) (show (nestedKind X.prog X.w).is s.heap k b from ⟨hk.is I rfl, hd⟩) (DNo.heap I h).2 dd ?_
  unfold eget at hQ
  rcases paired_find pr k with ⟨h1, h2⟩ | ⟨en, x, h1, h2, h3, _⟩
  · rw [h1] at hQ; rw [h2]; exact hQ _ (I.tok _)
  · rw [h1] at hQ; rw [h2]; exact hQ _ (I.tok _)
theorem eput_ok {es : List DE} {k : NK} {b : Addr} {v : V} (ok : ∀ x ∈ es, noText x.1 = true ∧ x.1.depth ≤ 8) (h1 : noText k = true) (h2 : k.depth ≤ 8) : ∀ x ∈ eput es k b v, noText x.1 = true ∧ x.1.depth ≤ 8 := fun x hx => by
  unfold eput at hx
  split at hx
  · obtain ⟨e, he, rfl⟩ := List.mem_map.mp hx
    split
    · exact ok e he
    · exact ok e he
  · rcases List.mem_append.mp hx with hx | hx
    · exact ok x hx
    · rw [List.mem_singleton] at hx
      subst hx
      exact ⟨h1, h2⟩
theorem stored_keys {xs : List (NK × Addr × Value)} {k : NK} {b : Addr} {r : Value} {x : NK × Addr × Value} (h : x ∈ storedH xs k b r) : x.1 = k ∨ ∃ y ∈ xs, y.1 = x.1 := by
  unfold storedH at h
  split at h
  · obtain ⟨y, hy, rfl⟩ := List.mem_map.mp h
    refine .inr ⟨y, hy, ?_⟩
    unfold putAt
    split <;> rfl
  · rcases List.mem_append.mp h with h | h
    · exact .inr ⟨x, h, rfl⟩
    · rw [List.mem_singleton] at h; subst h; exact .inl rfl
/-- the object behind a store -/
theorem dn_stored {a b : Addr} {es : List DE} {xs : List (NK × Addr × Value)} {k : NK} {v : V} {r : Value} {h' : Heap} {w : World} {P : Program} (ok : ∀ x ∈ es, noText x.1 = true ∧ x.1.depth ≤ 8) (hz : es.length < sizeLine)
    (pr : Paired (fun (p : DE) (q : NK × Addr × Value) => p.1 = q.1 ∧ p.2.1 = q.2.1 ∧ RelV p.2.2 q.2.2) es xs) (h1 : noText k = true) (h2 : k.depth ≤ 8) (rv : RelV v r) (dd : h'.DictOfH (nestedKind P w) a (storedH xs k b r)) :
    ∃ o', h'.get? a = some o' ∧ DObj o' (eput es k b v) := by
  obtain ⟨o', ents, ep, ho, hx, hd, he, _, nd⟩ := dd
  have pr' : Paired (fun (p : DE) (q : NK × Addr × Value) => p.1 = q.1 ∧ p.2.1 = q.2.1 ∧ RelV p.2.2 q.2.2) (eput es k b v) (storedH xs k b r) := by
    unfold eput storedH
    rw [any_find]
    rcases paired_find pr k with ⟨q1, q2⟩ | ⟨en, x, q1, q2, _⟩
    · rw [q1, q2]
      exact paired_snoc pr k b rv
    · rw [q1, q2]
      exact paired_map pr k rv
  have ok' := eput_ok (b := b) (v := v) ok h1 h2
  refine ⟨o', ho, hx, ⟨ents, ep, _, hd, fun w' => ?_, pr', nd⟩, ok', by have := eput_length es k b v; omega⟩
  rw [he]
  refine List.map_congr_left fun x hm => ?_
  obtain ⟨e, hme, e1, _⟩ := paired_mem pr' hm
  show (⟨x.1.hash w, .ref x.2.1, x.2.2⟩ : DictEntry) = _
  rw [hash_any w w' (k := x.1) (by rw [← e1]; exact (ok' e hme).1)]
theorem dn_put {Q : Unit → Shared → Prop} {a b : Addr} {o : Obj} {es : List DE} {k : NK} {v : V} {r : Value} (hu : A.units + 10 < cLine) (I : Inv X pins σ H s) (h : H a = some (DNo a o)) (d : DObj o es) (ks : KeysAre H es) (hk : Kv H k (.ref b)) (hn : noText k = true) (hd : k.depth ≤ 8) (hz : es.length < sizeLine)
    (rv : RelV v r) (hQ : ∀ o' s', DObj o' (eput es k b v) → Inv X pins σ (upd H a (DNo a o')) s' → Q () s') : wpAny (model X.prog X.w) A (setItem (.ref a) (.ref b) r) Q E s := by
  obtain ⟨xs, pr, dd, hl⟩ := d.of I h ks
  refine wpAny_setItem_heap (hsz := by omega) (show A.in1.units + 8 < cLine by show A.units + 1 + 8 < cLine; omega) (show (nestedKind X.prog X.w).is s.heap k b from ⟨hk.is I rfl, hd⟩) dd fun h' dd' hs => ?_
  obtain ⟨o', ho, hD⟩ := dn_stored d.ok hz pr hn hd rv dd'
  refine hQ o' _ hD (d_write I (by rw [h]; exact True.intro) hs ⟨o', ho⟩ ⟨⟨ho, (DNo.heap I h).2⟩, ⟨o', ho⟩, fun h1 h2 p k => ⟨k _ p.1, p.2⟩⟩)
theorem dn_dictSet {Q : Unit → Shared → Prop} {a b : Addr} {o : Obj} {es : List DE} {k : NK} {v : V} {r : Value} (hu : A.units + 10 < cLine) (I : Inv X pins σ H s) (h : H a = some (DNo a o)) (d : DObj o es) (ks : KeysAre H es) (hk : Kv H k (.ref b)) (hn : noText k = true) (hd : k.depth ≤ 8) (hz : es.length < sizeLine)
    (rv : RelV v r) (hQ : ∀ o' s', DObj o' (eput es k b v) → Inv X pins σ (upd H a (DNo a o')) s' → Q () s') : wpAny (model X.prog X.w) A (dictSet a (.ref b) r) Q E s := by
  obtain ⟨xs, pr, dd, hl⟩ := d.of I h ks
  refine wpAny_dictSet_heap (hsz := by omega) (show A.units + 8 < cLine by omega) (show (nestedKind X.prog X.w).is s.heap k b from ⟨hk.is I rfl, hd⟩) dd fun h' dd' hs => ?_
  obtain ⟨o', ho, hD⟩ := dn_stored d.ok hz pr hn hd rv dd'
  refine hQ o' _ hD (d_write I (by rw [h]; exact True.intro) hs ⟨o', ho⟩ ⟨⟨ho, (DNo.heap I h).2⟩, ⟨o', ho⟩, fun h1 h2 p k => ⟨k _ p.1, p.2⟩⟩)
/-- the empty one -/
def emptyO : Obj := { cls := .type "dict", data := .dict #[] }
theorem dobj_empty : DObj emptyO [] where
  ex := ⟨rfl, rfl, rfl⟩
  dat := ⟨#[], 0, [], rfl, fun _ => rfl, .nil, List.nodup_nil⟩
  ok := fun x hx => by cases hx
  sz := Nat.zero_le _
theorem dn_new (I : Inv X pins σ H s) {t' : Nat} : Inv X pins σ (upd H s.heap.objs.size (DNo s.heap.objs.size emptyO)) { s with heap := s.heap.push emptyO, toks := t' } :=
  I.laid (fun b o e => Heap.get?_push_of_some _ e) (Nat.le_refl _) ⟨⟨Heap.get?_push_size _ rfl, beq_eq_false_iff_ne.mpr (Nat.ne_of_gt I.big)⟩, ⟨_, Heap.get?_push_size _ rfl⟩, fun h1 h2 p k => ⟨k _ p.1, p.2⟩⟩
theorem dn_raw {a : Addr} {o : Obj} {es : List DE} (I : Inv X pins σ H s) (h : H a = some (DNo a o)) (d : DObj o es) : ∃ ents ep, s.heap.DictRaw a ents ep ∧ o.data = .dict ents ep ∧ ents.size = es.length ∧
    ∀ (i : Nat) (e : DE), es[i]? = some e → ∃ hi : i < ents.size, ents[i].key = .ref e.2.1 ∧ RelV e.2.2 ents[i].val := by
  obtain ⟨ents, ep, xs, hd, he, pr, nd⟩ := d.dat
  have hx := he X.w
  have hl : ents.size = es.length := by rw [← Array.length_toList, hx, List.length_map, ← Paired.length pr]
  refine ⟨ents, ep, ⟨o, (DNo.heap I h).1, d.ex, hd⟩, hd, hl, fun i e ie => ?_⟩
  obtain ⟨x, ix, e1, e2, e3⟩ := paired_get pr ie
  have hi : i < ents.size := by rw [hl]; exact (List.getElem?_eq_some_iff.mp ie).1
  have hg : ents[i] = ⟨x.1.hash X.w, .ref x.2.1, x.2.2⟩ := by
    have : ents.toList[i]? = some ⟨x.1.hash X.w, .ref x.2.1, x.2.2⟩ := by rw [hx, List.getElem?_map, ix]; rfl
    rw [List.getElem?_eq_getElem (by simpa using hi)] at this
    simpa using this
  exact ⟨hi, by rw [hg, e2], by rw [hg]; exact e3⟩
end
end DL
/-! The data layer: values as data (PyData), owned lists, over HandS. -/
namespace DL
open PySem PySem.Spec PyProof.Rows L2

/-! ### data in a heap of things that never change -/
def kD : Key → PyData
  | .inl i => .int i
  | .inr x => .str x
mutual
inductive Rp (M : Hp) : V → PyData → Prop
  | non : Rp M .non .none
  | bl (b : Bool) : Rp M (.bl b) (.bool b)
  | int (i : Int) : Rp M (.int i) (.int i)
  | str (x : Str) : Rp M (.str x) (.str x)
  | tup {a : Addr} {xs : List V} {ds : List PyData} : M a = some (.tup xs) → xs.length ≤ sizeLine → RpA M xs ds → Rp M (.ref a) (.tuple ds)
  | lst {a : Addr} {xs : List V} {ds : List PyData} : M a = some (.lst xs) → xs.length ≤ sizeLine → RpA M xs ds → Rp M (.ref a) (.list ds)
  | dN {a : Addr} {o : Obj} {es : List DE} {D : List (PyData × PyData)} : M a = some (DNo a o) → DObj o es → es.map (fun e => e.1.data) = D.map (·.1) → RpA M (es.map fun e => V.ref e.2.1) (D.map (·.1)) → RpA M (es.map fun e => e.2.2) (D.map (·.2)) → Rp M (.ref a) (.dict D)
inductive RpA (M : Hp) : List V → List PyData → Prop
  | nil : RpA M [] []
  | cons {v : V} {vs : List V} {d : PyData} {ds : List PyData} : Rp M v d → RpA M vs ds → RpA M (v :: vs) (d :: ds)
end

mutual
theorem Rp.mono {M M' : Hp} (s : Same M M') : ∀ {v : V} {d : PyData}, Rp M v d → Rp M' v d
  | _, _, .non => .non
  | _, _, .bl b => .bl b
  | _, _, .int i => .int i
  | _, _, .str x => .str x
  | _, _, .tup h z r => .tup (s _ _ h) z (RpA.mono s r)
  | _, _, .lst h z r => .lst (s _ _ h) z (RpA.mono s r)
  | _, _, .dN h d e k r => .dN (s _ _ h) d e (RpA.mono s k) (RpA.mono s r)
theorem RpA.mono {M M' : Hp} (s : Same M M') : ∀ {vs : List V} {ds : List PyData}, RpA M vs ds → RpA M' vs ds
  | _, _, .nil => .nil
  | _, _, .cons h r => .cons (Rp.mono s h) (RpA.mono s r)
end
theorem RpA.length {M : Hp} : ∀ {vs : List V} {ds : List PyData}, RpA M vs ds → vs.length = ds.length
  | _, _, .nil => rfl
  | _, _, .cons _ r => congrArg (· + 1) (RpA.length r)
theorem RpA.get {M : Hp} : ∀ {vs : List V} {ds : List PyData} {i : Nat} {d : PyData}, RpA M vs ds → ds[i]? = some d → ∃ v, vs[i]? = some v ∧ Rp M v d
  | _, _, _, _, .nil, e => by simp at e
  | _, _, 0, _, .cons h _, e => by simp at e; subst e; exact ⟨_, rfl, h⟩
  | _, _, i + 1, d, .cons _ r, e => by
    obtain ⟨v, h1, h2⟩ := RpA.get (i := i) (d := d) r (by simpa using e)
    exact ⟨v, by simpa using h1, h2⟩
theorem RpA.getV {M : Hp} : ∀ {vs : List V} {ds : List PyData} {i : Nat} {v : V}, RpA M vs ds → vs[i]? = some v → ∃ d, ds[i]? = some d ∧ Rp M v d
  | _, _, _, _, .nil, e => by simp at e
  | _, _, 0, _, .cons h _, e => by simp at e; subst e; exact ⟨_, rfl, h⟩
  | _, _, i + 1, d, .cons _ r, e => by
    obtain ⟨v, h1, h2⟩ := RpA.getV (i := i) (v := d) r (by simpa using e)
    exact ⟨v, by simpa using h1, h2⟩
theorem RpA.append {M : Hp} : ∀ {vs ws : List V} {ds es : List PyData}, RpA M vs ds → RpA M ws es → RpA M (vs ++ ws) (ds ++ es)
  | _, _, _, _, .nil, s => s
  | _, _, _, _, .cons h r, s => .cons h (RpA.append r s)
theorem RpA.take {M : Hp} : ∀ {vs : List V} {ds : List PyData} (n : Nat), RpA M vs ds → RpA M (vs.take n) (ds.take n)
  | _, _, 0, _ => .nil
  | _, _, _ + 1, .nil => .nil
  | _, _, n + 1, .cons h r => .cons h (RpA.take n r)
theorem RpA.drop {M : Hp} : ∀ {vs : List V} {ds : List PyData} (n : Nat), RpA M vs ds → RpA M (vs.drop n) (ds.drop n)
  | _, _, 0, r => r
  | _, _, _ + 1, .nil => .nil
  | _, _, n + 1, .cons _ r => RpA.drop n r
theorem RpA.set {M : Hp} {v : V} {d : PyData} (h : Rp M v d) : ∀ {vs : List V} {ds : List PyData} (n : Nat), RpA M vs ds → RpA M (vs.set n v) (ds.set n d)
  | _, _, _, .nil => .nil
  | _, _, 0, .cons _ r => .cons h r
  | _, _, n + 1, .cons q r => .cons q (RpA.set h n r)
theorem RpA.eraseIdx {M : Hp} : ∀ {vs : List V} {ds : List PyData} (n : Nat), RpA M vs ds → RpA M (vs.eraseIdx n) (ds.eraseIdx n)
  | _, _, _, .nil => .nil
  | _, _, 0, .cons _ r => r
  | _, _, n + 1, .cons q r => .cons q (RpA.eraseIdx n r)
theorem RpA.one {M : Hp} {v : V} {d : PyData} (h : Rp M v d) : RpA M [v] [d] := .cons h .nil
theorem RpA.ints {M : Hp} : ∀ {vs : List V} {ns : List Int}, RpA M vs (ns.map .int) → vs = ns.map V.int
  | _, [], .nil => rfl
  | _, _ :: _, .cons (.int _) r => by rw [RpA.ints r]; rfl
theorem RpA.ofInts {M : Hp} : ∀ ns : List Int, RpA M (ns.map V.int) (ns.map .int)
  | [] => .nil
  | n :: r => .cons (.int n) (RpA.ofInts r)
theorem RpA.strs {M : Hp} : ∀ {vs : List V} {ns : List Str}, RpA M vs (ns.map .str) → vs = ns.map V.str
  | _, [], .nil => rfl
  | _, _ :: _, .cons (.str _) r => by rw [RpA.strs r]; rfl


mutual
theorem Rp.dp {K : PySem.W.Frag} {M H : Hp} (s : Same M H) : ∀ {v : V} {d : PyData}, Rp M v d → d.canLay0 = true → Dp K H v d
  | _, _, .non, _ => .non
  | _, _, .bl b, _ => .bl b
  | _, _, .int i, _ => .int i
  | _, _, .str x, _ => .str x
  | _, _, .tup h z r, q => .tup (.of (s _ _ h)) (RpA.dp s r (by simpa only [PyData.canLay0] using q))
  | _, _, .lst h z r, q => .lst (.of (s _ _ h)) (RpA.dp s r (by simpa only [PyData.canLay0] using q))
  | _, _, .dN h d e k r, q => by simp [PyData.canLay0] at q
theorem RpA.dp {K : PySem.W.Frag} {M H : Hp} (s : Same M H) : ∀ {vs : List V} {ds : List PyData}, RpA M vs ds → PyData.canLayAll0 ds = true → DpAll K H vs ds
  | _, _, .nil, _ => .nil
  | _, _, .cons h r, q => by
    simp only [PyData.canLayAll0, Bool.and_eq_true] at q
    exact .cons (Rp.dp s h q.1) (RpA.dp s r q.2)
end

/-! ### the world: what a def may change -/
def Plain : HO → Prop
  | .lst _ => True
  | .tup _ => True
  | .ext _ => True
  | .dK _ => True
  | _ => False
/-- the draws' object: at r, over the script's list at sc -/
structure RowP where
  r : Addr
  sc : Addr
  ns : List Int
def RowOk (K : PySem.W.Frag) (H : Hp) (p : RowP) : Prop :=
  ∃ k m q : Int, H p.r = some (.lst [.ref p.sc, .int k, .int m, .int q]) ∧ SqL K H p.sc (p.ns.map V.int) ∧ 0 ≤ k ∧ 0 ≤ m ∧ m < 2147483647
abbrev TabG (H : Hp) (P : Addr) : Prop := GxR.TabG H P

structure Wd (K : PySem.W.Frag) (T : List Addr) (R : List RowP) (H0 M0 H M : Hp) : Prop where
  m0 : Same M0 M
  sub : Same M H
  cl : ∀ b o, M b = some o → Plain o
  fr : ∀ b, M b ≠ none → M0 b ≠ none ∨ H0 b = none
  keep : ∀ b o, H0 b = some o → H b = some o ∨ (∃ ps ps', o = .tbl ps ∧ H b = some (.tbl ps')) ∨ ∃ p ∈ R, p.r = b
  tab : ∀ P ∈ T, TabG H P
  row0 : ∀ p ∈ R, RowOk K H0 p
  row : ∀ p ∈ R, RowOk K H p
  rowM : ∀ p ∈ R, M p.r = none
section
variable {K : PySem.W.Frag} {T : List Addr} {R : List RowP} {H0 M0 H M H' M' : Hp}
theorem RowOk.ne {p : RowP} (x : RowOk K H p) : H p.r ≠ none := by
  obtain ⟨k, m, q, e, _⟩ := x
  rw [e]; simp
theorem Wd.there (w : Wd K T R H0 M0 H M) {b : Addr} (h : H0 b ≠ none) : H b ≠ none := by
  cases e : H0 b with
  | none => exact (h e).elim
  | some o =>
    rcases w.keep b o e with e' | ⟨_, _, _, e'⟩ | ⟨p, hp, rfl⟩
    · rw [e']; simp
    · rw [e']; simp
    · exact (w.row p hp).ne
theorem Wd.new (w : Wd K T R H0 M0 H M) {b : Addr} (h : H b = none) : H0 b = none := by
  cases e : H0 b with
  | none => rfl
  | some o => exact absurd h (w.there (by rw [e]; simp))
theorem Wd.newM (w : Wd K T R H0 M0 H M) {b : Addr} (h : H b = none) : M b = none := by
  cases e : M b with
  | none => rfl
  | some o => rw [w.sub b o e] at h; cases h
theorem Wd.refl (w : Wd K T R H0 M0 H M) : Wd K T R H M H M where
  m0 := Same.refl _
  sub := w.sub
  cl := w.cl
  fr := fun b h => .inl h
  keep := fun b o h => .inl h
  tab := w.tab
  row0 := w.row
  row := w.row
  rowM := w.rowM
theorem Wd.trans (w : Wd K T R H0 M0 H M) (w' : Wd K T R H M H' M') : Wd K T R H0 M0 H' M' where
  m0 := w.m0.trans w'.m0
  sub := w'.sub
  cl := w'.cl
  fr := fun b h => by
    rcases w'.fr b h with q | q
    · exact w.fr b q
    · exact .inr (w.new q)
  keep := fun b o h => by
    rcases w.keep b o h with q | ⟨ps, ps', e, q⟩ | q
    · exact w'.keep b o q
    · rcases w'.keep b _ q with q' | ⟨qs, qs', e', q'⟩ | q'
      · exact .inr (.inl ⟨_, _, e, q'⟩)
      · exact .inr (.inl ⟨_, _, e, q'⟩)
      · exact .inr (.inr q')
    · exact .inr (.inr q)
  tab := w'.tab
  row0 := w.row0
  row := w'.row
  rowM := w'.rowM
theorem sqL_free {a : Addr} {o : HO} {b : Addr} {xs : List V} (h : SqL K H b xs) (n : H a = none) : SqL K (upd H a o) b xs := by
  rcases h with (h | ⟨u, h⟩) | h
  · exact .inl (.inl (by rw [upd_ne (ne_of_none h n)]; exact h))
  · exact .inl (.inr ⟨u, by rw [upd_ne (ne_of_none h n)]; exact h⟩)
  · exact .inr h
theorem RowOk.upd_free {a : Addr} {o : HO} {p : RowP} (h : RowOk K H p) (n : H a = none) : RowOk K (upd H a o) p := by
  obtain ⟨k, m, q, e, z, r⟩ := h
  exact ⟨k, m, q, by rw [upd_ne (ne_of_none e n)]; exact e, sqL_free z n, r⟩
theorem TabG.upd_ne {a P : Addr} {o : HO} (h : TabG H P) (n : P ≠ a) : TabG (upd H a o) P := by
  obtain ⟨ps, e, t⟩ := h
  exact ⟨ps, by rw [L2.upd_ne n]; exact e, t⟩
theorem TabG.ne_of {a P : Addr} {o : HO} (h : TabG H P) (e : H a = some o) (n : ∀ ps, o ≠ .tbl ps) : P ≠ a := by
  obtain ⟨ps, e', _⟩ := h
  rintro rfl
  rw [e] at e'
  exact n ps (Option.some.inj e')
theorem TabG.ne_free {a P : Addr} (h : TabG H P) (e : H a = none) : P ≠ a := by
  obtain ⟨ps, e', _⟩ := h
  rintro rfl
  rw [e] at e'
  cases e'
theorem same_upd {a : Addr} {o : HO} (n : H a = none) : Same H (upd H a o) := fun b u e => by rw [upd_ne (ne_of_none e n)]; exact e
/-- a new thing, owned or of no matter -/
theorem Wd.lay (w : Wd K T R H0 M0 H M) {p : Addr} {o : HO} (n : H p = none) : Wd K T R H0 M0 (upd H p o) M where
  m0 := w.m0
  sub := w.sub.trans (same_upd n)
  cl := w.cl
  fr := w.fr
  keep := fun b u h => by
    have hb : b ≠ p := fun z => absurd n (z ▸ w.there (by rw [h]; simp))
    rw [upd_ne hb]
    exact w.keep b u h
  tab := fun P hP => (w.tab P hP).upd_ne ((w.tab P hP).ne_free n)
  row0 := w.row0
  row := fun q hq => (w.row q hq).upd_free n
  rowM := w.rowM
/-- what stands may be shared from here on -/
theorem Wd.share (w : Wd K T R H0 M0 H M) {p : Addr} {o : HO} (h : H p = some o) (n : H0 p = none) (hM : M p = none) (pl : Plain o) : Wd K T R H0 M0 H (upd M p o) where
  m0 := w.m0.trans (same_upd hM)
  sub := fun b u e => by
    by_cases hb : b = p
    · rw [hb, upd_same] at e; cases e; rw [hb]; exact h
    · rw [upd_ne hb] at e; exact w.sub b u e
  cl := fun b u e => by
    by_cases hb : b = p
    · rw [hb, upd_same] at e; cases e; exact pl
    · rw [upd_ne hb] at e; exact w.cl b u e
  fr := fun b h => by
    by_cases hb : b = p
    · exact .inr (hb ▸ n)
    · rw [upd_ne hb] at h; exact w.fr b h
  keep := w.keep
  tab := w.tab
  row0 := w.row0
  row := w.row
  rowM := fun q hq => by
    have : q.r ≠ p := fun z => (w.row0 q hq).ne (z ▸ n)
    rw [upd_ne this]; exact w.rowM q hq
theorem Wd.alloc (w : Wd K T R H0 M0 H M) {p : Addr} {o : HO} (n : H p = none) (pl : Plain o) : Wd K T R H0 M0 (upd H p o) (upd M p o) :=
  (w.lay n).share upd_same (w.new n) (w.newM n) pl
/-- a thing of the def's own is written -/
theorem Wd.write (w : Wd K T R H0 M0 H M) {a : Addr} {o o' : HO} (h : H a = some o) (n : H0 a = none) (hM : M a = none) (nt : ∀ ps, o ≠ .tbl ps) : Wd K T R H0 M0 (upd H a o') M where
  m0 := w.m0
  sub := fun b u e => by
    have hb : b ≠ a := fun z => by rw [z, hM] at e; cases e
    rw [upd_ne hb]; exact w.sub b u e
  cl := w.cl
  fr := w.fr
  keep := fun b u e => by
    have hb : b ≠ a := fun z => by rw [z, n] at e; cases e
    rw [upd_ne hb]; exact w.keep b u e
  tab := fun P hP => (w.tab P hP).upd_ne ((w.tab P hP).ne_of h nt)
  row0 := w.row0
  row := fun q hq => by
    obtain ⟨k, m, z, e, sq, rr⟩ := w.row q hq
    have hr : q.r ≠ a := fun y => (w.row0 q hq).ne (y ▸ n)
    refine ⟨k, m, z, by rw [upd_ne hr]; exact e, ?_, rr⟩
    obtain ⟨_, _, _, _, sq0, _⟩ := w.row0 q hq
    have out : (∃ o' , H0 q.sc = some o') → q.sc ≠ a := fun ⟨o', y⟩ y' => by rw [y', n] at y; cases y
    rcases sq0 with (y | ⟨u, y⟩) | y
    · have hs := out ⟨_, y⟩
      rcases sq with (x | ⟨u, x⟩) | x
      · exact .inl (.inl (by rw [upd_ne hs]; exact x))
      · exact .inl (.inr ⟨u, by rw [upd_ne hs]; exact x⟩)
      · exact .inr x
    · have hs := out ⟨_, y⟩
      rcases sq with (x | ⟨u, x⟩) | x
      · exact .inl (.inl (by rw [upd_ne hs]; exact x))
      · exact .inl (.inr ⟨u, by rw [upd_ne hs]; exact x⟩)
      · exact .inr x
    · exact .inr y
  rowM := w.rowM

/-! ### slots -/
inductive DV where
  | d (x : PyData)
  | row
  | own (l : List PyData)
  | oN (D : List (PyData × PyData))
  | oK (l : List (Key × PyData))
def DV.isOwn : DV → Bool
  | .own _ => true
  | .oN _ => true
  | .oK _ => true
  | _ => false
abbrev DS := List (Option DV)
/-- content -/
def DVc (R : List RowP) (H M : Hp) (v : V) : DV → Prop
  | .d x => Rp M v x
  | .row => ∃ p ∈ R, v = .ref p.r
  | .own l => ∃ a xs, v = .ref a ∧ H a = some (.lst xs) ∧ xs.length ≤ sizeLine ∧ RpA M xs l
  | .oN D => ∃ a o es, v = .ref a ∧ H a = some (DNo a o) ∧ DObj o es ∧ es.map (fun e => e.1.data) = D.map (·.1) ∧ RpA M (es.map fun e => V.ref e.2.1) (D.map (·.1)) ∧ RpA M (es.map fun e => e.2.2) (D.map (·.2))
  | .oK l => ∃ a xs, v = .ref a ∧ H a = some (.dK ((l.map (·.1)).zip xs)) ∧ RpA M xs (l.map (·.2))
def DVo (H0 M : Hp) (v : V) (x : DV) : Prop := x.isOwn = true → ∃ a, v = .ref a ∧ H0 a = none ∧ M a = none
structure Slots (R : List RowP) (H0 H M : Hp) (σ : L2.St) (δ : DS) : Prop where
  len : σ.length = δ.length
  at_ : ∀ (i : Nat) (x : DV), δ[i]? = some (some x) → ∃ v, σ[i]? = some (some v) ∧ DVc R H M v x ∧ DVo H0 M v x
  sep : ∀ (i j : Nat) (x y : DV) (v : V), δ[i]? = some (some x) → δ[j]? = some (some y) → x.isOwn = true → y.isOwn = true → σ[i]? = some (some v) → σ[j]? = some (some v) → i = j
theorem DVc.own_obj {v : V} {x : DV} (h : DVc R H M v x) (o : x.isOwn = true) : ∃ a u, v = .ref a ∧ H a = some u ∧ (∀ ps, u ≠ .tbl ps) := by
  cases x with
  | d _ => cases o
  | row => cases o
  | own l => obtain ⟨a, xs, e, h, _⟩ := h; exact ⟨a, _, e, h, fun ps q => by cases q⟩
  | oN D => obtain ⟨a, o, es, e, h, _⟩ := h; exact ⟨a, _, e, h, fun ps q => by cases q⟩
  | oK l => obtain ⟨a, xs, e, h, _⟩ := h; exact ⟨a, _, e, h, fun ps q => by cases q⟩
/-- content where all that is held is held further -/
theorem DVc.mono {v : V} {x : DV} (h : DVc R H M v x) (sM : Same M M') (sH : x.isOwn = true → ∀ a, v = .ref a → H' a = H a) : DVc R H' M' v x := by
  cases x with
  | d _ => exact Rp.mono sM h
  | row => exact h
  | own l => obtain ⟨a, xs, e, h, z, r⟩ := h; exact ⟨a, xs, e, (sH rfl a e).trans h, z, r.mono sM⟩
  | oN D => obtain ⟨a, o, es, e, h, d, k1, k2, r⟩ := h; exact ⟨a, o, es, e, (sH rfl a e).trans h, d, k1, k2.mono sM, r.mono sM⟩
  | oK l => obtain ⟨a, xs, e, h, r⟩ := h; exact ⟨a, xs, e, (sH rfl a e).trans h, r.mono sM⟩
/-- an owned thing stands behind a call -/
theorem Wd.own_keep (w : Wd K T R H0 M0 H M) (w' : Wd K T R H M H' M') {a : Addr} {u : HO} (h : H a = some u) (nt : ∀ ps, u ≠ .tbl ps) (n : H0 a = none) : H' a = H a := by
  rcases w'.keep a u h with e | ⟨ps, _, e, _⟩ | ⟨p, hp, e⟩
  · rw [e, h]
  · exact (nt ps e).elim
  · exact ((w.row0 p hp).ne (e ▸ n)).elim
theorem Slots.ext {σ : L2.St} {δ : DS} (S : Slots R H0 H M σ δ) (w : Wd K T R H0 M0 H M) (w' : Wd K T R H M H' M') : Slots R H0 H' M' σ δ where
  len := S.len
  at_ := fun i x e => by
    obtain ⟨v, e1, c, o⟩ := S.at_ i x e
    refine ⟨v, e1, c.mono w'.m0 (fun ow a ea => ?_), fun ow => ?_⟩
    · obtain ⟨a', u, ea', hu, nt⟩ := c.own_obj ow
      obtain ⟨a2, ea2, n, _⟩ := o ow
      rw [ea] at ea' ea2
      cases ea'; cases ea2
      exact w.own_keep w' hu nt n
    · obtain ⟨a', u, ea', hu, nt⟩ := c.own_obj ow
      obtain ⟨a2, ea2, n, hM⟩ := o ow
      rw [ea2] at ea'; cases ea'
      refine ⟨_, ea2, n, ?_⟩
      cases q : M' a' with
      | none => rfl
      | some u' =>
        rcases w'.fr a' (by rw [q]; simp) with z | z
        · exact (z hM).elim
        · rw [hu] at z; cases z
  sep := S.sep
theorem Slots.get {σ : L2.St} {δ : DS} (S : Slots R H0 H M σ δ) {i : Nat} {x : DV} (e : δ[i]? = some (some x)) : ∃ v, σ[i]? = some (some v) ∧ DVc R H M v x := by
  obtain ⟨v, e1, c, _⟩ := S.at_ i x e
  exact ⟨v, e1, c⟩
/-- a slot takes data -/
theorem Slots.set {σ : L2.St} {δ : DS} (S : Slots R H0 H M σ δ) (i : Nat) {v : V} {x : PyData} (h : Rp M v x) : Slots R H0 H M (σ.set i (some v)) (δ.set i (some (.d x))) where
  len := by simpa using S.len
  at_ := fun j y e => by
    by_cases hj : i = j
    · subst hj
      have hi : i < δ.length := by
        rw [List.getElem?_eq_some_iff] at e
        obtain ⟨h, _⟩ := e
        simpa using h
      rw [List.getElem?_set_self hi] at e
      cases e
      exact ⟨v, by rw [List.getElem?_set_self (by rw [S.len]; exact hi)], h, fun z => by cases z⟩
    · rw [List.getElem?_set_ne hj] at e
      obtain ⟨v', e1, c⟩ := S.at_ j y e
      exact ⟨v', by rw [List.getElem?_set_ne hj]; exact e1, c⟩
  sep := fun j k y z u e1 e2 o1 o2 e3 e4 => by
    have nj : ∀ (j : Nat) (y : DV), (δ.set i (some (.d x)))[j]? = some (some y) → y.isOwn = true → j ≠ i ∧ δ[j]? = some (some y) := fun j y e o => by
      by_cases hj : i = j
      · subst hj
        have hi : i < δ.length := by
          rw [List.getElem?_eq_some_iff] at e
          obtain ⟨h, _⟩ := e
          simpa using h
        rw [List.getElem?_set_self hi] at e
        cases e
        cases o
      · rw [List.getElem?_set_ne hj] at e
        exact ⟨Ne.symm hj, e⟩
    obtain ⟨n1, d1⟩ := nj j y e1 o1
    obtain ⟨n2, d2⟩ := nj k z e2 o2
    rw [List.getElem?_set_ne (Ne.symm n1)] at e3
    rw [List.getElem?_set_ne (Ne.symm n2)] at e4
    exact S.sep j k y z u d1 d2 o1 o2 e3 e4
/-- a slot is forgotten -/
theorem Slots.drop {σ : L2.St} {δ : DS} (S : Slots R H0 H M σ δ) (i : Nat) : Slots R H0 H M σ (δ.set i none) where
  len := by simpa using S.len
  at_ := fun j y e => by
    by_cases hj : i = j
    · subst hj
      by_cases hi : i < δ.length
      · rw [List.getElem?_set_self hi] at e; cases e
      · rw [List.getElem?_eq_none (by simpa using Nat.not_lt.mp hi)] at e; cases e
    · rw [List.getElem?_set_ne hj] at e
      exact S.at_ j y e
  sep := fun j k y z u e1 e2 o1 o2 e3 e4 => by
    have nj : ∀ (j : Nat) (y : DV), (δ.set i none)[j]? = some (some y) → δ[j]? = some (some y) := fun j y e => by
      by_cases hj : i = j
      · subst hj
        by_cases hi : i < δ.length
        · rw [List.getElem?_set_self hi] at e; cases e
        · rw [List.getElem?_eq_none (by simpa using Nat.not_lt.mp hi)] at e; cases e
      · rw [List.getElem?_set_ne hj] at e; exact e
    exact S.sep j k y z u (nj j y e1) (nj k z e2) o1 o2 e3 e4
end
end DL
/-! The data layer 2: expressions, tests, arguments, statements. -/
namespace DL
open PySem PySem.Spec L2

/-- an exception: its class, its fields -/
structure Ex where
  cls : Addr
  fs : List (Str × PyData)
def ExR (H M : Hp) (x : Ex) (cls : Value) (d : Option Addr) : Prop :=
  cls = .ref x.cls ∧ ((x.fs = [] ∧ d = none) ∨ ∃ dd vs, d = some dd ∧ H dd = some (.xd ((x.fs.map (·.1)).zip vs)) ∧ RpA M vs (x.fs.map (·.2)))
/-- the surroundings of a def's body: the tables; what an exception that leaves is to meet -/
structure Z where
  T : List Addr
  E : XK
  XD : Ex → Prop
abbrev Z.nox (z : Z) : Z := { z with E := fun _ _ _ => False, XD := fun _ => False }
/-- the exceptions' side: from H0, M0 -/
def Out (K : PySem.W.Frag) (z : Z) (R : List RowP) (H0 M0 : Hp) : Prop :=
  ∀ (x : Ex) (cls : Value) (d : Option Addr) (H M : Hp), z.XD x → Wd K z.T R H0 M0 H M → ExR H M x cls d → z.E cls d H
theorem Out.nox {K : PySem.W.Frag} {z : Z} {R : List RowP} {H0 M0 : Hp} : Out K z.nox R H0 M0 := fun _ _ _ _ _ h => h.elim

inductive EV where
  | d (x : PyData)
  | vw (i : Nat)
def EVr (σ : L2.St) (M : Hp) (v : V) : EV → Prop
  | .d x => Rp M v x
  | .vw i => σ[i]? = some (some v)
def look (δ : DS) (i : Nat) : Option DV := match δ[i]? with
  | some x => x
  | none => none
def cont (δ : DS) : EV → Option DV
  | .d x => some (.d x)
  | .vw i => look δ i
def conts (δ : DS) : List EV → Option (List DV)
  | [] => some []
  | e :: r => match cont δ e, conts δ r with
    | some x, some xs => some (x :: xs)
    | _, _ => none
def datas : List EV → Option (List PyData)
  | [] => some []
  | .d x :: r => match datas r with
    | some xs => some (x :: xs)
    | none => none
  | .vw _ :: _ => none
theorem look_some {δ : DS} {i : Nat} {x : DV} (h : look δ i = some x) : δ[i]? = some (some x) := by
  unfold look at h
  split at h
  · next y e => rw [e, h]
  · cases h

abbrev TED := DS → (EV → DS → Prop) → Prop
abbrev TTD := DS → (Bool → DS → Prop) → Prop
abbrev TAD := DS → (List EV → DS → Prop) → Prop
structure DEnds where
  nx : DS → Prop
  rt : PyData → Prop
  bk : DS → Prop := fun _ => False
  ct : DS → Prop := fun _ => False
abbrev TSD := DEnds → DS → Prop
inductive EVA (σ : L2.St) (M : Hp) : List V → List EV → Prop
  | nil : EVA σ M [] []
  | cons {v : V} {vs : List V} {e : EV} {es : List EV} : EVr σ M v e → EVA σ M vs es → EVA σ M (v :: vs) (e :: es)
inductive DVA (R : List RowP) (H M : Hp) : List V → List DV → Prop
  | nil : DVA R H M [] []
  | cons {v : V} {vs : List V} {e : DV} {es : List DV} : DVc R H M v e → DVA R H M vs es → DVA R H M (v :: vs) (e :: es)

section
variable {K : PySem.W.Frag} {R : List RowP} {H0 M0 H M H' M' : Hp} {σ : L2.St} {δ : DS} {z : Z}
theorem EVr.mono {v : V} {e : EV} (h : EVr σ M v e) (s : Same M M') : EVr σ M' v e := by
  cases e with
  | d x => exact Rp.mono s h
  | vw i => exact h
theorem EVA.mono (s : Same M M') : ∀ {vs : List V} {es : List EV}, EVA σ M vs es → EVA σ M' vs es
  | _, _, .nil => .nil
  | _, _, .cons h r => .cons (h.mono s) (EVA.mono s r)
theorem EVr.cont (S : Slots R H0 H M σ δ) {v : V} {e : EV} {x : DV} (h : EVr σ M v e) (c : cont δ e = some x) : DVc R H M v x := by
  cases e with
  | d y =>
    simp only [DL.cont] at c
    cases c
    exact h
  | vw i =>
    obtain ⟨u, e1, d⟩ := S.get (look_some c)
    have h' : σ[i]? = some (some v) := h
    rw [e1] at h'
    cases h'
    exact d
theorem EVA.conts (S : Slots R H0 H M σ δ) : ∀ {vs : List V} {es : List EV} {xs : List DV}, EVA σ M vs es → conts δ es = some xs → DVA R H M vs xs
  | _, _, xs, .nil, c => by
    simp only [DL.conts] at c
    cases c
    exact .nil
  | _, _, xs, .cons (e := e) (es := es) h r, c => by
    simp only [DL.conts] at c
    cases h1 : DL.cont δ e with
    | none => rw [h1] at c; cases c
    | some y =>
      cases h2 : DL.conts δ es with
      | none => rw [h1, h2] at c; cases c
      | some ys =>
        rw [h1, h2] at c
        cases c
        exact .cons (h.cont S h1) (EVA.conts S r h2)
theorem EVA.datas : ∀ {vs : List V} {es : List EV} {xs : List PyData}, EVA σ M vs es → datas es = some xs → RpA M vs xs
  | _, _, xs, .nil, c => by
    simp only [DL.datas] at c
    cases c
    exact .nil
  | _, _, xs, .cons (e := .d y) (es := es) h r, c => by
    simp only [DL.datas] at c
    cases h2 : DL.datas es with
    | none => rw [h2] at c; cases c
    | some ys =>
      rw [h2] at c
      cases c
      exact .cons h (EVA.datas r h2)
  | _, _, xs, .cons (e := .vw i) h r, c => by
    simp only [DL.datas] at c
    cases c
end

def liftE (K : PySem.W.Frag) (z : Z) (t : TED) : TE := fun σ H Q => ∃ (R : List RowP) (H0 M0 M : Hp) (δ : DS) (QD : EV → DS → Prop), Out K z R H0 M0 ∧ Wd K z.T R H0 M0 H M ∧ Slots R H0 H M σ δ ∧ t δ QD ∧
  ∀ (e : EV) (δ' : DS) (v : V) (H' M' : Hp), QD e δ' → Wd K z.T R H0 M0 H' M' → Same M M' → Slots R H0 H' M' σ δ' → EVr σ M' v e → Q v H'
def liftT (K : PySem.W.Frag) (z : Z) (t : TTD) : TT := fun σ H Q => ∃ (R : List RowP) (H0 M0 M : Hp) (δ : DS) (QD : Bool → DS → Prop), Out K z R H0 M0 ∧ Wd K z.T R H0 M0 H M ∧ Slots R H0 H M σ δ ∧ t δ QD ∧
  ∀ (b : Bool) (δ' : DS) (H' M' : Hp), QD b δ' → Wd K z.T R H0 M0 H' M' → Same M M' → Slots R H0 H' M' σ δ' → Q b H'
def liftA (K : PySem.W.Frag) (z : Z) (t : TAD) : TA := fun σ H Q => ∃ (R : List RowP) (H0 M0 M : Hp) (δ : DS) (QD : List EV → DS → Prop), Out K z R H0 M0 ∧ Wd K z.T R H0 M0 H M ∧ Slots R H0 H M σ δ ∧ t δ QD ∧
  ∀ (e : List EV) (δ' : DS) (v : List V) (H' M' : Hp), QD e δ' → Wd K z.T R H0 M0 H' M' → Same M M' → Slots R H0 H' M' σ δ' → EVA σ M' v e → Q v H'
/-- what a statement's end owes -/
structure EndsOk (K : PySem.W.Frag) (z : Z) (R : List RowP) (H0 M0 Mb : Hp) (ED : DEnds) (D : Ends) : Prop where
  nx : ∀ (δ : DS) (σ : L2.St) (H M : Hp), ED.nx δ → Wd K z.T R H0 M0 H M → Same Mb M → Slots R H0 H M σ δ → D.nx σ H
  bk : ∀ (δ : DS) (σ : L2.St) (H M : Hp), ED.bk δ → Wd K z.T R H0 M0 H M → Same Mb M → Slots R H0 H M σ δ → D.bk σ H
  ct : ∀ (δ : DS) (σ : L2.St) (H M : Hp), ED.ct δ → Wd K z.T R H0 M0 H M → Same Mb M → Slots R H0 H M σ δ → D.ct σ H
  rt : ∀ (x : PyData) (v : V) (H M : Hp), ED.rt x → Wd K z.T R H0 M0 H M → Rp M v x → D.rt v H
def liftS (K : PySem.W.Frag) (z : Z) (t : TSD) : TS := fun D σ H => ∃ (R : List RowP) (H0 M0 Mb M : Hp) (δ : DS) (ED : DEnds), Out K z R H0 M0 ∧ Wd K z.T R H0 M0 H M ∧ Same Mb M ∧ Slots R H0 H M σ δ ∧ t ED δ ∧ EndsOk K z R H0 M0 Mb ED D

abbrev PD (X : Cx) (z : Z) (e : Expr) (t : TED) : Prop := PE X e (liftE X.K z t)
abbrev PTD (X : Cx) (z : Z) (e : Expr) (t : TTD) : Prop := PT X e (liftT X.K z t)
abbrev PWD (X : Cx) (z : Z) (e : Expr) (t : TTD) : Prop := PW X e (liftT X.K z t)
abbrev PAD (X : Cx) (z : Z) (es : List Expr) (t : TAD) : Prop := PA X es (liftA X.K z t)
abbrev PSD (X : Cx) (z : Z) (s : Stmt) (t : TSD) : Prop := PS X s (liftS X.K z t)
abbrev PSsD (X : Cx) (z : Z) (s : List Stmt) (t : TSD) : Prop := PSs X s (liftS X.K z t)

theorem PE.imp {X : Cx} {e : Expr} {t t' : TE} (h : PE X e t) (i : ∀ σ H Q, t' σ H Q → t σ H Q) : PE X e t' := ⟨fun pins s σ H Q I q => h.run pins s σ H Q I (i σ H Q q)⟩
theorem PT.imp {X : Cx} {e : Expr} {t t' : TT} (h : PT X e t) (i : ∀ σ H Q, t' σ H Q → t σ H Q) : PT X e t' := ⟨fun pins s σ H Q I q => h.run pins s σ H Q I (i σ H Q q)⟩
theorem PW.imp {X : Cx} {e : Expr} {t t' : TT} (h : PW X e t) (i : ∀ σ H Q, t' σ H Q → t σ H Q) : PW X e t' := ⟨fun wh pins s σ H Q I q => h.run wh pins s σ H Q I (i σ H Q q)⟩
theorem PA.imp {X : Cx} {e : List Expr} {t t' : TA} (h : PA X e t) (i : ∀ σ H Q, t' σ H Q → t σ H Q) : PA X e t' := ⟨fun pos pins s σ H Q I q => h.run pos pins s σ H Q I (i σ H Q q)⟩
theorem PS.imp {X : Cx} {e : Stmt} {t t' : TS} (h : PS X e t) (i : ∀ D σ H, t' D σ H → t D σ H) : PS X e t' := ⟨fun pins s σ H D I q => h.run pins s σ H D I (i D σ H q)⟩
theorem PSs.imp {X : Cx} {e : List Stmt} {t t' : TS} (h : PSs X e t) (i : ∀ D σ H, t' D σ H → t D σ H) : PSs X e t' := ⟨fun pins s σ H D I q => h.run pins s σ H D I (i D σ H q)⟩

section
variable {X : Cx} {z : Z} {a b c e : Expr} {es : List Expr} {ta tb tc te : TED} {t : TAD} {pos : Pos}

/-! ### names, constants -/
def dVar (i : Nat) : TED := fun δ Q => match look δ i with
  | some (.d x) => Q (.d x) δ
  | some _ => Q (.vw i) δ
  | none => False
def dC (x : PyData) : TED := fun δ Q => Q (.d x) δ
theorem pd_var {i : Nat} {x : Str} {pos : Pos} (h : PE X (.Name x pos) (tVar i)) : PD X z (.Name x pos) (dVar i) := by
  refine PE.imp h fun σ H Q ⟨R, H0, M0, M, δ, QD, hO, W, S, ht, hQ⟩ => ?_
  unfold dVar at ht
  cases hl : look δ i with
  | none => rw [hl] at ht; exact ht.elim
  | some x =>
    obtain ⟨v, e1, d⟩ := S.get (look_some hl)
    rw [hl] at ht
    refine ⟨v, e1, ?_⟩
    cases x with
    | d y => exact hQ _ _ v H M ht W (Same.refl _) S d
    | row => exact hQ _ _ v H M ht W (Same.refl _) S e1
    | own l => exact hQ _ _ v H M ht W (Same.refl _) S e1
    | oN l => exact hQ _ _ v H M ht W (Same.refl _) S e1
    | oK l => exact hQ _ _ v H M ht W (Same.refl _) S e1
theorem pd_c {v : V} {x : PyData} {e : Expr} (h : PE X e (tC v)) (r : ∀ M, Rp M v x) : PD X z e (dC x) :=
  PE.imp h fun σ H Q ⟨R, H0, M0, M, δ, QD, hO, W, S, ht, hQ⟩ => hQ _ _ v H M ht W (Same.refl _) S (r M)
theorem pd_int {i j pos} : PD X z (.Constant (.int i) j pos) (dC (.int i)) := pd_c pe_int fun _ => .int i
theorem pd_bl {b j pos} : PD X z (.Constant (.bool b) j pos) (dC (.bool b)) := pd_c pe_bl fun _ => .bl b
theorem pd_non {j pos} : PD X z (.Constant .none j pos) (dC .none) := pd_c pe_non fun _ => .non
theorem pd_str {x j pos} : PD X z (.Constant (.str x) j pos) (dC (.str x)) := pd_c pe_str fun _ => .str x

/-! ### operators by values -/
def rOpD (K : PySem.W.Frag) (T : List Addr) (g : DV → DV → (PyData → Prop) → Prop) : R2 := fun x y H Q => ∃ (R : List RowP) (M : Hp) (dx dy : DV) (QD : PyData → Prop),
  Wd K T R H M H M ∧ DVc R H M x dx ∧ DVc R H M y dy ∧ g dx dy QD ∧ ∀ (u : PyData) (v : V) (H' M' : Hp), QD u → Wd K T R H M H' M' → Rp M' v u → Q v H'
def dOp (g : DV → DV → (PyData → Prop) → Prop) (ta tb : TED) : TED := fun δ Q => ta δ fun e1 δ1 => tb δ1 fun e2 δ2 => ∃ x y, cont δ2 e1 = some x ∧ cont δ2 e2 = some y ∧ g x y fun u => Q (.d u) δ2
theorem liftE_op {K : PySem.W.Frag} {g : DV → DV → (PyData → Prop) → Prop} {σ : L2.St} {H : Hp} {Q : VK} (h : liftE K z (dOp g ta tb) σ H Q) : tOp (rOpD K z.T g) (liftE K z ta) (liftE K z tb) σ H Q := by
  obtain ⟨R, H0, M0, M, δ, QD, hO, W, S, ht, hQ⟩ := h
  refine ⟨R, H0, M0, M, δ, _, hO, W, S, ht, fun e1 δ1 v1 H1 M1 q1 W1 s1 S1 r1 => ?_⟩
  refine ⟨R, H0, M0, M1, δ1, _, hO, W1, S1, q1, fun e2 δ2 v2 H2 M2 q2 W2 s2 S2 r2 => ?_⟩
  obtain ⟨x, y, c1, c2, q⟩ := q2
  refine ⟨R, M2, x, y, _, W2.refl, (r1.mono s2).cont S2 c1, r2.cont S2 c2, q, fun u v H' M' qu W' rv => ?_⟩
  exact hQ _ _ v H' M' qu (W2.trans W') ((s1.trans s2).trans W'.m0) (S2.ext W2 W') rv
theorem pd_op {op : Operator} {g : DV → DV → (PyData → Prop) → Prop} (ho : OpR X (binaryOp op) (rOpD X.K z.T g)) (ha : PD X z a ta) (hb : PD X z b tb) : PD X z (.BinOp a op b pos) (dOp g ta tb) :=
  PE.imp (pe_op ho ha hb) fun σ H Q h => liftE_op h
theorem pd_cmp {op : CmpOp} {g : DV → DV → (PyData → Prop) → Prop} (ho : OpR X (compareOp op) (rOpD X.K z.T g)) (ha : PD X z a ta) (hb : PD X z b tb) (hm : behindInMarks op b = false) : PD X z (.Compare a [op] [b] pos) (dOp g ta tb) :=
  PE.imp (pe_cmpR ho ha hb hm) fun σ H Q h => liftE_op h
def rIxD := rOpD
theorem pd_ix {g : DV → DV → (PyData → Prop) → Prop} (ho : IxR X (rOpD X.K z.T g)) (ha : PD X z a ta) (hb : PD X z b tb) (hs : PlainIx b) : PD X z (.Subscript a b pos) (dOp g ta tb) :=
  PE.imp (pe_ix ho ha hb hs) fun σ H Q h => liftE_op h
/-- a bool as a test -/
def dB (t : TED) : TTD := fun δ Q => t δ fun e δ' => ∃ k, e = .d (.bool k) ∧ Q k δ'
theorem liftT_B {K : PySem.W.Frag} {σ : L2.St} {H : Hp} {Q : Bool → Hp → Prop} (h : liftT K z (dB te) σ H Q) : liftE K z te σ H fun x H1 => ∃ c, x = .bl c ∧ Q c H1 := by
  obtain ⟨R, H0, M0, M, δ, QD, hO, W, S, ht, hQ⟩ := h
  refine ⟨R, H0, M0, M, δ, _, hO, W, S, ht, fun e δ' v H' M' q W' s' S' r => ?_⟩
  obtain ⟨k, rfl, q⟩ := q
  cases r
  exact ⟨k, rfl, hQ _ _ _ _ q W' s' S'⟩
theorem ptd_val (h : PD X z e te) (he : ∀ whole, isTrue e X.env whole = (do let v ← whole; standAt e.pos; holding [v] (truthy v)) := by intro _; rfl) : PTD X z e (dB te) :=
  PT.imp (pt_val h he) fun σ H Q q => liftT_B q
theorem ptd_cmp {op : CmpOp} {g : DV → DV → (PyData → Prop) → Prop} (ho : OpR X (compareOp op) (rOpD X.K z.T g)) (ha : PD X z a ta) (hb : PD X z b tb) (hm : behindInMarks op b = false) : PTD X z (.Compare a [op] [b] pos) (dB (dOp g ta tb)) :=
  PT.imp (pt_cmpR ho ha hb hm) fun σ H Q q => by
    have q1 := liftT_B q
    obtain ⟨R, H0, M0, M, δ, QD, hO, W, S, ht, hQ⟩ := q1
    exact liftE_op ⟨R, H0, M0, M, δ, QD, hO, W, S, ht, hQ⟩
/-- a < b < c -/
def dChain (g g' : DV → DV → (PyData → Prop) → Prop) (ta tb tc : TED) : TED := fun δ Q => ta δ fun e1 δ1 => tb δ1 fun e2 δ2 => ∃ x y, cont δ2 e1 = some x ∧ cont δ2 e2 = some y ∧
  g x y fun u => ∃ k, u = .bool k ∧ (if k = true then tc δ2 fun e3 δ3 => ∃ y' w, cont δ3 e2 = some y' ∧ cont δ3 e3 = some w ∧ g' y' w fun u' => Q (.d u') δ3 else Q (.d (.bool false)) δ2)
theorem liftE_chain {K : PySem.W.Frag} {g g' : DV → DV → (PyData → Prop) → Prop} {σ : L2.St} {H : Hp} {Q : VK} (h : liftE K z (dChain g g' ta tb tc) σ H Q) :
    tChain (rOpD K z.T g) (rOpD K z.T g') (liftE K z ta) (liftE K z tb) (liftE K z tc) σ H Q := by
  obtain ⟨R, H0, M0, M, δ, QD, hO, W, S, ht, hQ⟩ := h
  refine ⟨R, H0, M0, M, δ, _, hO, W, S, ht, fun e1 δ1 v1 H1 M1 q1 W1 s1 S1 r1 => ?_⟩
  refine ⟨R, H0, M0, M1, δ1, _, hO, W1, S1, q1, fun e2 δ2 v2 H2 M2 q2 W2 s2 S2 r2 => ?_⟩
  obtain ⟨x, y, c1, c2, q⟩ := q2
  refine ⟨R, M2, x, y, _, W2.refl, (r1.mono s2).cont S2 c1, r2.cont S2 c2, q, fun u v H' M' qu W' rv => ?_⟩
  obtain ⟨k, rfl, qk⟩ := qu
  cases rv
  have S3 := S2.ext W2 W'
  refine ⟨k, rfl, ?_⟩
  cases k with
  | false =>
    rw [if_neg Bool.false_ne_true] at qk ⊢
    exact hQ _ _ _ H' M' qk (W2.trans W') ((s1.trans s2).trans W'.m0) S3 (Rp.bl false)
  | true =>
    rw [if_pos rfl] at qk ⊢
    refine ⟨R, H0, M0, M', δ2, _, hO, W2.trans W', S3, qk, fun e3 δ3 v3 H3 M3 q3 W3 s3 S3 r3 => ?_⟩
    obtain ⟨y', w, c2', c3, q⟩ := q3
    refine ⟨R, M3, y', w, _, W3.refl, (r2.mono (Same.trans W'.m0 s3)).cont S3 c2', r3.cont S3 c3, q, fun u v H'' M'' qu W'' rv => ?_⟩
    exact hQ _ _ v H'' M'' qu (W3.trans W'') ((((s1.trans s2).trans W'.m0).trans s3).trans W''.m0) (S3.ext W3 W'') rv
theorem pd_chain {op op' : CmpOp} {g g' : DV → DV → (PyData → Prop) → Prop} (ho : OpR X (compareOp op) (rOpD X.K z.T g)) (ho' : OpR X (compareOp op') (rOpD X.K z.T g')) (ha : PD X z a ta) (hb : PD X z b tb) (hc : PD X z c tc)
    (hm : lastMarks [op, op'] [b, c] = false := by with_unfolding_all rfl) : PD X z (.Compare a [op, op'] [b, c] pos) (dChain g g' ta tb tc) :=
  PE.imp (pe_chain ho ho' ha hb hc hm) fun σ H Q q => liftE_chain q
theorem ptd_chain {op op' : CmpOp} {g g' : DV → DV → (PyData → Prop) → Prop} (ho : OpR X (compareOp op) (rOpD X.K z.T g)) (ho' : OpR X (compareOp op') (rOpD X.K z.T g')) (ha : PD X z a ta) (hb : PD X z b tb) (hc : PD X z c tc)
    (hm : lastMarks [op, op'] [b, c] = false := by with_unfolding_all rfl) : PTD X z (.Compare a [op, op'] [b, c] pos) (dB (dChain g g' ta tb tc)) :=
  PT.imp (pt_chain ho ho' ha hb hc hm) fun σ H Q q => by
    have q1 := liftT_B q
    obtain ⟨R, H0, M0, M, δ, QD, hO, W, S, ht, hQ⟩ := q1
    exact liftE_chain ⟨R, H0, M0, M, δ, QD, hO, W, S, ht, hQ⟩

/-! ### and, or, not, if -/
def dAnd (t u : TTD) : TTD := fun δ Q => t δ fun c δ1 => if c = true then u δ1 Q else Q false δ1
def dOr (t u : TTD) : TTD := fun δ Q => t δ fun c δ1 => if c = true then Q true δ1 else u δ1 Q
def dNot (t : TTD) : TTD := fun δ Q => t δ fun c δ1 => Q (!c) δ1
variable {tA tB : TTD} {rest : List Expr} {A B : Expr}
theorem ptd_not (ha : PTD X z a tA) : PTD X z (.UnaryOp .Not a pos) (dNot tA) :=
  PT.imp (pt_not ha) fun σ H Q ⟨R, H0, M0, M, δ, QD, hO, W, S, ht, hQ⟩ => ⟨R, H0, M0, M, δ, _, hO, W, S, ht, fun b δ' H' M' q W' s' S' => hQ _ _ _ _ q W' s' S'⟩
theorem pwd_and1 (ha : PTD X z a tA) : PWD X z (.BoolOp .And [a] pos) tA := pw_and1 ha
theorem pwd_or1 (ha : PTD X z a tA) : PWD X z (.BoolOp .Or [a] pos) tA := pw_or1 ha
theorem pwd_and (ha : PTD X z a tA) (hb : PWD X z (.BoolOp .And (b :: rest) pos) tB) : PWD X z (.BoolOp .And (a :: b :: rest) pos) (dAnd tA tB) :=
  PW.imp (pw_and ha hb) fun σ H Q ⟨R, H0, M0, M, δ, QD, hO, W, S, ht, hQ⟩ => ⟨R, H0, M0, M, δ, _, hO, W, S, ht, fun k δ' H' M' q W' s' S' => by
    cases k with
    | true =>
      rw [if_pos rfl] at q ⊢
      exact ⟨R, H0, M0, M', δ', _, hO, W', S', q, fun b2 δ2 H2 M2 q2 W2 s2 S2 => hQ _ _ _ _ q2 W2 (s'.trans s2) S2⟩
    | false =>
      rw [if_neg Bool.false_ne_true] at q ⊢
      exact hQ _ _ _ _ q W' s' S'⟩
theorem pwd_or (ha : PTD X z a tA) (hb : PWD X z (.BoolOp .Or (b :: rest) pos) tB) : PWD X z (.BoolOp .Or (a :: b :: rest) pos) (dOr tA tB) :=
  PW.imp (pw_or ha hb) fun σ H Q ⟨R, H0, M0, M, δ, QD, hO, W, S, ht, hQ⟩ => ⟨R, H0, M0, M, δ, _, hO, W, S, ht, fun k δ' H' M' q W' s' S' => by
    cases k with
    | false =>
      rw [if_neg Bool.false_ne_true] at q ⊢
      exact ⟨R, H0, M0, M', δ', _, hO, W', S', q, fun b2 δ2 H2 M2 q2 W2 s2 S2 => hQ _ _ _ _ q2 W2 (s'.trans s2) S2⟩
    | true =>
      rw [if_pos rfl] at q ⊢
      exact hQ _ _ _ _ q W' s' S'⟩
theorem PWD.pt (h : PWD X z e tA) : PTD X z e tA := PW.pt h
/-- as values -/
def dAndV (ta tb : TED) : TED := fun δ Q => ta δ fun e δ1 => ∃ k, e = .d (.bool k) ∧ if k = true then tb δ1 Q else Q (.d (.bool false)) δ1
def dOrV (ta tb : TED) : TED := fun δ Q => ta δ fun e δ1 => ∃ k, e = .d (.bool k) ∧ if k = true then Q (.d (.bool true)) δ1 else tb δ1 Q
def dNotV (ta : TED) : TED := fun δ Q => ta δ fun e δ1 => ∃ k, e = .d (.bool k) ∧ Q (.d (.bool (!k))) δ1
theorem pd_one {op} (h : PD X z a ta) : PD X z (.BoolOp op [a] pos) ta := pe_one h
theorem pd_and (ha : PD X z a ta) (hb : PD X z (.BoolOp .And (b :: rest) pos) tb) : PD X z (.BoolOp .And (a :: b :: rest) pos) (dAndV ta tb) :=
  PE.imp (pe_and ha hb) fun σ H Q ⟨R, H0, M0, M, δ, QD, hO, W, S, ht, hQ⟩ => ⟨R, H0, M0, M, δ, _, hO, W, S, ht, fun e δ' v H' M' q W' s' S' r => by
    obtain ⟨k, rfl, q⟩ := q
    cases r
    refine ⟨k, rfl, ?_⟩
    cases k with
    | true =>
      rw [if_pos rfl] at q ⊢
      exact ⟨R, H0, M0, M', δ', _, hO, W', S', q, fun b2 δ2 v2 H2 M2 q2 W2 s2 S2 r2 => hQ _ _ _ _ _ q2 W2 (s'.trans s2) S2 r2⟩
    | false =>
      rw [if_neg Bool.false_ne_true] at q ⊢
      exact hQ _ _ _ _ _ q W' s' S' (Rp.bl false)⟩
theorem pd_or (ha : PD X z a ta) (hb : PD X z (.BoolOp .Or (b :: rest) pos) tb) : PD X z (.BoolOp .Or (a :: b :: rest) pos) (dOrV ta tb) :=
  PE.imp (pe_or ha hb) fun σ H Q ⟨R, H0, M0, M, δ, QD, hO, W, S, ht, hQ⟩ => ⟨R, H0, M0, M, δ, _, hO, W, S, ht, fun e δ' v H' M' q W' s' S' r => by
    obtain ⟨k, rfl, q⟩ := q
    cases r
    refine ⟨k, rfl, ?_⟩
    cases k with
    | false =>
      rw [if_neg Bool.false_ne_true] at q ⊢
      exact ⟨R, H0, M0, M', δ', _, hO, W', S', q, fun b2 δ2 v2 H2 M2 q2 W2 s2 S2 r2 => hQ _ _ _ _ _ q2 W2 (s'.trans s2) S2 r2⟩
    | true =>
      rw [if_pos rfl] at q ⊢
      exact hQ _ _ _ _ _ q W' s' S' (Rp.bl true)⟩
theorem pd_not (ha : PD X z a ta) : PD X z (.UnaryOp .Not a pos) (dNotV ta) :=
  PE.imp (pe_not ha) fun σ H Q ⟨R, H0, M0, M, δ, QD, hO, W, S, ht, hQ⟩ => ⟨R, H0, M0, M, δ, _, hO, W, S, ht, fun e δ' v H' M' q W' s' S' r => by
    obtain ⟨k, rfl, q⟩ := q
    cases r
    exact ⟨k, rfl, hQ _ _ _ _ _ q W' s' S' (Rp.bl _)⟩⟩
def dIf (t : TTD) (ta tb : TED) : TED := fun δ Q => t δ fun k δ1 => if k = true then ta δ1 Q else tb δ1 Q
theorem pd_ifExp (hc : PTD X z c tA) (ha : PD X z a ta) (hb : PD X z b tb) : PD X z (.IfExp c a b pos) (dIf tA ta tb) :=
  PE.imp (pe_ifExp hc ha hb) fun σ H Q ⟨R, H0, M0, M, δ, QD, hO, W, S, ht, hQ⟩ => ⟨R, H0, M0, M, δ, _, hO, W, S, ht, fun k δ' H' M' q W' s' S' => by
    cases k with
    | true =>
      rw [if_pos rfl] at q ⊢
      exact ⟨R, H0, M0, M', δ', _, hO, W', S', q, fun b2 δ2 v2 H2 M2 q2 W2 s2 S2 r2 => hQ _ _ _ _ _ q2 W2 (s'.trans s2) S2 r2⟩
    | false =>
      rw [if_neg Bool.false_ne_true] at q ⊢
      exact ⟨R, H0, M0, M', δ', _, hO, W', S', q, fun b2 δ2 v2 H2 M2 q2 W2 s2 S2 r2 => hQ _ _ _ _ _ q2 W2 (s'.trans s2) S2 r2⟩⟩

/-! ### arguments, displays, calls -/
def dNil : TAD := fun δ Q => Q [] δ
def dCons (te : TED) (t : TAD) : TAD := fun δ Q => te δ fun e δ1 => t δ1 fun es δ2 => Q (e :: es) δ2
theorem pad_nil : PAD X z [] dNil := PA.imp pa_nil fun σ H Q ⟨R, H0, M0, M, δ, QD, hO, W, S, ht, hQ⟩ => hQ _ _ [] H M ht W (Same.refl _) S .nil
theorem pad_cons (ha : PD X z e te) (hr : PAD X z es t) (hs : starEach (e :: es) X.env = (false, eval e X.env) :: starEach es X.env := by rfl) : PAD X z (e :: es) (dCons te t) :=
  PA.imp (pa_cons ha hr hs) fun σ H Q ⟨R, H0, M0, M, δ, QD, hO, W, S, ht, hQ⟩ => ⟨R, H0, M0, M, δ, _, hO, W, S, ht, fun e δ' v H' M' q W' s' S' r =>
    ⟨R, H0, M0, M', δ', _, hO, W', S', q, fun es δ2 vs H2 M2 q2 W2 s2 S2 r2 => hQ _ _ _ _ _ q2 W2 (s'.trans s2) S2 (.cons (r.mono s2) r2)⟩⟩
def dTup (t : TAD) : TED := fun δ Q => t δ fun es δ' => ∃ xs, datas es = some xs ∧ xs.length ≤ sizeLine ∧ Q (.d (.tuple xs)) δ'
def dLst (t : TAD) : TED := fun δ Q => t δ fun es δ' => ∃ xs, datas es = some xs ∧ xs.length ≤ sizeLine ∧ Q (.d (.list xs)) δ'
theorem pd_tup {x1} (h : PAD X z es t) : PD X z (.Tuple es x1 pos) (dTup t) :=
  PE.imp (pe_tup h) fun σ H Q ⟨R, H0, M0, M, δ, QD, hO, W, S, ht, hQ⟩ => ⟨R, H0, M0, M, δ, _, hO, W, S, ht, fun es δ' vs H' M' q W' s' S' r => by
    obtain ⟨xs, d, z1, q⟩ := q
    have rr := r.datas d
    refine ⟨by rw [rr.length]; exact z1, fun p hp => ?_⟩
    have W2 := W'.refl.alloc (o := .tup vs) hp trivial
    exact hQ _ _ _ _ _ q (W'.trans W2) (s'.trans W2.m0) (S'.ext W' W2) (.tup upd_same (by rw [rr.length]; exact z1) (rr.mono W2.m0))⟩
theorem pd_lst (h : PAD X z es t) : PD X z (.List es pos) (dLst t) :=
  PE.imp (pe_lst h) fun σ H Q ⟨R, H0, M0, M, δ, QD, hO, W, S, ht, hQ⟩ => ⟨R, H0, M0, M, δ, _, hO, W, S, ht, fun es δ' vs H' M' q W' s' S' r => by
    obtain ⟨xs, d, z1, q⟩ := q
    have rr := r.datas d
    refine ⟨by rw [rr.length]; exact z1, fun p hp => ?_⟩
    have W2 := W'.refl.alloc (o := .lst vs) hp trivial
    exact hQ _ _ _ _ _ q (W'.trans W2) (s'.trans W2.m0) (S'.ext W' W2) (.lst upd_same (by rw [rr.length]; exact z1) (rr.mono W2.m0))⟩
/-- a built-in's call, by values -/
def rCaD (K : PySem.W.Frag) (T : List Addr) (g : List DV → (PyData → Prop) → Prop) : List V → Hp → VK → Prop := fun xs H Q => ∃ (R : List RowP) (M : Hp) (ds : List DV) (QD : PyData → Prop),
  Wd K T R H M H M ∧ DVA R H M xs ds ∧ g ds QD ∧ ∀ (u : PyData) (v : V) (H' M' : Hp), QD u → Wd K T R H M H' M' → Rp M' v u → Q v H'
def dCall (g : List DV → (PyData → Prop) → Prop) (t : TAD) : TED := fun δ Q => t δ fun es δ1 => ∃ ds, conts δ1 es = some ds ∧ g ds fun u => Q (.d u) δ1
theorem liftE_call {K : PySem.W.Frag} {g : List DV → (PyData → Prop) → Prop} {σ : L2.St} {H : Hp} {Q : VK} (h : liftE K z (dCall g t) σ H Q) : liftA K z t σ H fun vs H1 => rCaD K z.T g vs H1 Q := by
  obtain ⟨R, H0, M0, M, δ, QD, hO, W, S, ht, hQ⟩ := h
  refine ⟨R, H0, M0, M, δ, _, hO, W, S, ht, fun es δ1 vs H1 M1 q1 W1 s1 S1 r1 => ?_⟩
  obtain ⟨ds, c, q⟩ := q1
  exact ⟨R, M1, ds, _, W1.refl, r1.conts S1 c, q, fun u v H' M' qu W' rv => hQ _ _ v H' M' qu (W1.trans W') (s1.trans W'.m0) (S1.ext W1 W') rv⟩
theorem pd_callB {x : Str} {id : String} {p : Pos} {g : List DV → (PyData → Prop) → Prop} (hc : CallR X (.builtin id) (rCaD X.K z.T g)) (hg : Gl X x) (hm : X.mg x = none) (hv : bootBuiltins x = some (.builtin id)) (ha : PAD X z (e :: es) t) (hn : x ≠ "__name__" := by decide)
    (hdb : (x == ("__debug__" : Str)) = false := by decide) (he : starEach (e :: es) X.env = (false, eval e X.env) :: starEach es X.env := by rfl) (hpl : (backTo pos (starEach es X.env)).any (·.1) = false := by rfl) :
    PD X z (.Call (.Name x p) (e :: es) [] pos) (dCall g t) :=
  PE.imp (pe_callB hc hg hm hv ha hn hdb he hpl) fun σ H Q h => liftE_call h
theorem pd_callTy {x : Str} {T : String} {p : Pos} {g : List DV → (PyData → Prop) → Prop} (hc : CallR X (.type T) (rCaD X.K z.T g)) (hg : Gl X x) (hm : X.mg x = none) (hv : bootBuiltins x = some (.type T)) (ha : PAD X z (e :: es) t) (hn : x ≠ "__name__" := by decide)
    (hdb : (x == ("__debug__" : Str)) = false := by decide) (he : starEach (e :: es) X.env = (false, eval e X.env) :: starEach es X.env := by rfl) (hpl : (backTo pos (starEach es X.env)).any (·.1) = false := by rfl) :
    PD X z (.Call (.Name x p) (e :: es) [] pos) (dCall g t) :=
  PE.imp (pe_callTy hc hg hm hv ha hn hdb he hpl) fun σ H Q h => liftE_call h
/-- a def's promise: what it makes of data -/
abbrev Gf := List DV → (PyData → Prop) → (Ex → Prop) → Prop
def spD (K : PySem.W.Frag) (T : List Addr) (g : Gf) : Sp := fun vs H Q E => ∃ (R : List RowP) (M : Hp) (ds : List DV) (QD : PyData → Prop) (XD : Ex → Prop),
  Wd K T R H M H M ∧ DVA R H M vs ds ∧ ds.all (fun d => !d.isOwn) = true ∧ g ds QD XD ∧ (∀ (u : PyData) (v : V) (H' M' : Hp), QD u → Wd K T R H M H' M' → Rp M' v u → Q v H') ∧
  ∀ (x : Ex) (cls : Value) (d : Option Addr) (H' M' : Hp), XD x → Wd K T R H M H' M' → ExR H' M' x cls d → E cls d H'
def dFn (XD : Ex → Prop) (g : Gf) (t : TAD) : TED := dCall (fun ds Q => ds.all (fun d => !d.isOwn) = true ∧ g ds Q XD) t
theorem pd_call {x : Str} {p : Pos} {CX : CXT} {k : Nat} {f : Addr} {fd : FuncData} {ps : List Str} {g : Gf} (F : FnOk X.prog X.w X.K X.mg X.base CX k f fd ps (spD X.K z.T g)) (hr : Room k X.A) (hg : Gl X x) (hm : X.mg x = some (.ref f)) (hk : PySem.W.keepIn X.K (.ref f) = true)
    (hb : Binds X.K fd ps []) (hx : Passes CX X z.E) (ha : PAD X z (e :: es) t) (hdb : (x == ("__debug__" : Str)) = false := by decide) (he : starEach (e :: es) X.env = (false, eval e X.env) :: starEach es X.env := by rfl) (hpl : (backTo pos (starEach es X.env)).any (·.1) = false := by rfl) :
    PD X z (.Call (.Name x p) (e :: es) [] pos) (dFn z.XD g t) :=
  PE.imp (pe_call F hr hg hm hk hb .nil hx ha hdb he hpl) fun σ H Q ⟨R, H0, M0, M, δ, QD, hO, W, S, ht, hQ⟩ => by
    refine ⟨R, H0, M0, M, δ, _, hO, W, S, ht, fun es δ1 vs H1 M1 q1 W1 s1 S1 r1 => ?_⟩
    obtain ⟨ds, c, no, q⟩ := q1
    rw [List.append_nil]
    refine ⟨R, M1, ds, _, z.XD, W1.refl, r1.conts S1 c, no, q, fun u v H' M' qu W' rv => hQ _ _ v H' M' qu (W1.trans W') (s1.trans W'.m0) (S1.ext W1 W') rv, fun x cls d H' M' hx W' r => ?_⟩
    exact hO x cls d H' M' hx (W1.trans W') r
end

/-! ### statements -/
section
variable {X : Cx} {z : Z} {e c : Expr} {te : TED} {tc : TTD} {st : Stmt} {rest sA sB : List Stmt} {t u : TSD} {pos : Pos}
def dNext : TSD := fun E δ => E.nx δ
def dSeq (t u : TSD) : TSD := fun E δ => t { E with nx := u E } δ
theorem psd_nil : PSsD X z [] dNext := PSs.imp pss_nil fun D σ H ⟨R, H0, M0, Mb, M, δ, ED, hO, W, sb, S, ht, hD⟩ => hD.nx δ σ H M ht W sb S
theorem psd_cons (h1 : PSD X z st t) (h2 : PSsD X z rest u) : PSsD X z (st :: rest) (dSeq t u) :=
  PSs.imp (pss_cons h1 h2) fun D σ H ⟨R, H0, M0, Mb, M, δ, ED, hO, W, sb, S, ht, hD⟩ => ⟨R, H0, M0, Mb, M, δ, _, hO, W, sb, S, ht,
    { nx := fun δ' σ' H' M' q W' s' S' => ⟨R, H0, M0, Mb, M', δ', ED, hO, W', s', S', q, hD⟩, bk := hD.bk, ct := hD.ct, rt := hD.rt }⟩
theorem psd_one (h1 : PSD X z st t) : PSsD X z [st] t := pss_one h1
def dPass : TSD := dNext
theorem psd_pass : PSD X z (.Pass pos) dNext := PS.imp ps_pass fun D σ H ⟨R, H0, M0, Mb, M, δ, ED, hO, W, sb, S, ht, hD⟩ => hD.nx δ σ H M ht W sb S
def dBreak : TSD := fun E δ => E.bk δ
theorem psd_break : PSD X z (.Break pos) dBreak := PS.imp ps_break fun D σ H ⟨R, H0, M0, Mb, M, δ, ED, hO, W, sb, S, ht, hD⟩ => hD.bk δ σ H M ht W sb S
def dCont : TSD := fun E δ => E.ct δ
theorem psd_cont : PSD X z (.Continue pos) dCont := PS.imp ps_continue fun D σ H ⟨R, H0, M0, Mb, M, δ, ED, hO, W, sb, S, ht, hD⟩ => hD.ct δ σ H M ht W sb S
def dDrop (te : TED) : TSD := fun E δ => te δ fun _ δ' => E.nx δ'
theorem psd_expr (he : PD X z e te) (hs : swapsWith e none pos.line X.env = pure false := by rfl) : PSD X z (.Expr e pos) (dDrop te) :=
  PS.imp (ps_expr he hs) fun D σ H ⟨R, H0, M0, Mb, M, δ, ED, hO, W, sb, S, ht, hD⟩ => ⟨R, H0, M0, M, δ, _, hO, W, S, ht, fun e δ' v H' M' q W' s' S' r => hD.nx δ' σ H' M' q W' (sb.trans s') S'⟩
def dRet (te : TED) : TSD := fun E δ => te δ fun e _ => ∃ x, e = .d x ∧ E.rt x
theorem psd_ret (he : PD X z e te) : PSD X z (.Return (some e) pos) (dRet te) :=
  PS.imp (ps_ret he) fun D σ H ⟨R, H0, M0, Mb, M, δ, ED, hO, W, sb, S, ht, hD⟩ => ⟨R, H0, M0, M, δ, _, hO, W, S, ht, fun e δ' v H' M' q W' s' S' r => by
    obtain ⟨x, rfl, q⟩ := q
    exact hD.rt x v H' M' q W' r⟩
/-- return of an owned list -/
def dRetOwn (i : Nat) : TSD := fun E δ => ∃ l, look δ i = some (.own l) ∧ E.rt (.list l)
theorem psd_retOwn {i : Nat} (he : PE X e (tVar i)) : PSD X z (.Return (some e) pos) (dRetOwn i) :=
  PS.imp (ps_ret he) fun D σ H ⟨R, H0, M0, Mb, M, δ, ED, hO, W, sb, S, ht, hD⟩ => by
    obtain ⟨l, hl, q⟩ := ht
    obtain ⟨v, e1, c, o⟩ := S.at_ i _ (look_some hl)
    refine ⟨v, e1, ?_⟩
    obtain ⟨a, xs, rfl, ha, hz, r⟩ := c
    obtain ⟨a', ea, n, hM⟩ := o rfl
    cases ea
    have W2 := W.share ha n hM trivial
    exact hD.rt _ _ H _ q W2 (.lst upd_same hz (r.mono (same_upd hM)))
def dRetN : TSD := fun E _ => E.rt .none
theorem psd_retN : PSD X z (.Return none pos) dRetN := PS.imp ps_retN fun D σ H ⟨R, H0, M0, Mb, M, δ, ED, hO, W, sb, S, ht, hD⟩ => hD.rt _ _ H M ht W .non
def dIfS (tc : TTD) (t u : TSD) : TSD := fun E δ => tc δ fun b δ' => if b = true then t E δ' else u E δ'
theorem psd_if (hc : PTD X z c tc) (ha : PSsD X z sA t) (hb : PSsD X z sB u) : PSD X z (.If c sA sB pos) (dIfS tc t u) :=
  PS.imp (ps_if hc ha hb) fun D σ H ⟨R, H0, M0, Mb, M, δ, ED, hO, W, sb, S, ht, hD⟩ => ⟨R, H0, M0, M, δ, _, hO, W, S, ht, fun b δ' H' M' q W' s' S' => by
    cases b with
    | true =>
      rw [if_pos rfl] at q ⊢
      exact ⟨R, H0, M0, Mb, M', δ', ED, hO, W', sb.trans s', S', q, hD⟩
    | false =>
      rw [if_neg Bool.false_ne_true] at q ⊢
      exact ⟨R, H0, M0, Mb, M', δ', ED, hO, W', sb.trans s', S', q, hD⟩⟩
def dNever : TSD := fun _ _ => False
theorem psd_never : PSD X z st dNever := PS.imp ps_never fun D σ H ⟨R, H0, M0, Mb, M, δ, ED, hO, W, sb, S, ht, hD⟩ => ht
theorem pssd_never {s : List Stmt} : PSsD X z s dNever := PSs.imp pss_never fun D σ H ⟨R, H0, M0, Mb, M, δ, ED, hO, W, sb, S, ht, hD⟩ => ht

/-! ### targets -/
abbrev TGD := PyData → DS → (DS → Prop) → Prop
abbrev TGsD := List PyData → DS → (DS → Prop) → Prop
/-- σ' is σ but at vs -/
def ButAt (vs : List Nat) (σ σ' : L2.St) : Prop := σ'.length = σ.length ∧ ∀ j, j ∉ vs → σ'[j]? = σ[j]?
theorem ButAt.refl {vs : List Nat} {σ : L2.St} : ButAt vs σ σ := ⟨rfl, fun _ _ => rfl⟩
theorem ButAt.trans {vs : List Nat} {σ σ' σ'' : L2.St} (a : ButAt vs σ σ') (b : ButAt vs σ' σ'') : ButAt vs σ σ'' := ⟨b.1.trans a.1, fun j h => (b.2 j h).trans (a.2 j h)⟩
def liftG (K : PySem.W.Frag) (z : Z) (vs : List Nat) (g : TGD) : TG := fun v σ H Q => ∃ (R : List RowP) (H0 M0 M : Hp) (δ : DS) (x : PyData) (QD : DS → Prop), Wd K z.T R H0 M0 H M ∧ Slots R H0 H M σ δ ∧ Rp M v x ∧ g x δ QD ∧
  ∀ (δ' : DS) (σ' : L2.St), QD δ' → Slots R H0 H M σ' δ' → ButAt vs σ σ' → Q σ' H
def liftGs (K : PySem.W.Frag) (z : Z) (vs : List Nat) (g : TGsD) : TGs := fun v σ H Q => ∃ (R : List RowP) (H0 M0 M : Hp) (δ : DS) (x : List PyData) (QD : DS → Prop), Wd K z.T R H0 M0 H M ∧ Slots R H0 H M σ δ ∧ RpA M v x ∧ g x δ QD ∧
  ∀ (δ' : DS) (σ' : L2.St), QD δ' → Slots R H0 H M σ' δ' → ButAt vs σ σ' → Q σ' H
abbrev PGD (X : Cx) (z : Z) (vs : List Nat) (e : Expr) (g : TGD) : Prop := PG X e (liftG X.K z vs g)
abbrev PGsD (X : Cx) (z : Z) (vs : List Nat) (e : List Expr) (g : TGsD) : Prop := PGs X e (liftGs X.K z vs g)
theorem PG.imp {X : Cx} {e : Expr} {t t' : TG} (h : PG X e t) (i : ∀ v σ H Q, t' v σ H Q → t v σ H Q) : PG X e t' := ⟨fun pins s σ H v u Q I r q => h.run pins s σ H v u Q I r (i v σ H Q q)⟩
theorem PGs.imp {X : Cx} {e : List Expr} {t t' : TGs} (h : PGs X e t) (i : ∀ v σ H Q, t' v σ H Q → t v σ H Q) : PGs X e t' := ⟨fun pins s σ H v u Q I r q => h.run pins s σ H v u Q I r (i v σ H Q q)⟩
def gdName (i : Nat) : TGD := fun x δ Q => Q (δ.set i (some (.d x)))
def gdNil : TGsD := fun xs δ Q => xs = [] ∧ Q δ
def gdCons (g : TGD) (u : TGsD) : TGsD := fun xs δ Q => ∃ x r, xs = x :: r ∧ g x δ fun δ' => u r δ' Q
def gdTup (n : Nat) (g : TGsD) : TGD := fun x δ Q => ∃ xs, (x = .tuple xs) ∧ xs.length = n ∧ g xs δ Q
variable {g : TGD} {gs : TGsD} {tg : Expr} {tgs : List Expr} {vs : List Nat}
theorem pgd_name {i : Nat} {e : Expr} (h : PG X e (gName i)) (hi : i ∈ vs := by decide) : PGD X z vs e (gdName i) := PG.imp h fun v σ H Q ⟨R, H0, M0, M, δ, x, QD, W, S, r, q, hQ⟩ => hQ _ _ q (S.set i r) ⟨by simp, fun j hj => List.getElem?_set_ne (fun e => hj (by rw [← e]; exact hi))⟩
theorem pgsd_nil : PGsD X z vs [] gdNil := PGs.imp pgs_nil fun v σ H Q ⟨R, H0, M0, M, δ, x, QD, W, S, r, ⟨e, q⟩, hQ⟩ => by
  subst e
  cases r
  exact ⟨rfl, hQ _ _ q S .refl⟩
theorem pgsd_cons {e : Expr} {es : List Expr} (h1 : PGD X z vs e g) (h2 : PGsD X z vs es gs)
    (hs : (assignEach (e :: es) X.env).map (·.2) = assign e X.env :: (assignEach es X.env).map (·.2) := by rfl) : PGsD X z vs (e :: es) (gdCons g gs) :=
  PGs.imp (pgs_cons h1 h2 hs) fun v σ H Q ⟨R, H0, M0, M, δ, x, QD, W, S, r, ⟨y, ys, e, q⟩, hQ⟩ => by
    subst e
    cases r with
    | cons r1 r2 => exact ⟨_, _, rfl, R, H0, M0, M, δ, y, _, W, S, r1, q, fun δ' σ' q' S' b => ⟨R, H0, M0, M, δ', ys, _, W, S', r2, q', fun δ2 σ2 q2 S2 b2 => hQ δ2 σ2 q2 S2 (b.trans b2)⟩⟩
theorem pgd_tup {es : List Expr} {k : Nat} {n : Nat} (hc : X.calm = true) (h : PGsD X z vs es gs)
    (hn : (assignEach es X.env).length = n := by rfl) (hst : (assignEach es X.env).findIdx? (·.1) = none := by rfl) : PGD X z vs (.Tuple es k pos) (gdTup n gs) :=
  PG.imp (pg_tup hc h hn hst) fun v σ H Q ⟨R, H0, M0, M, δ, x, QD, W, S, r, ⟨xs, e, hl, q⟩, hQ⟩ => by
    subst e
    cases r with
    | tup hM hz r => exact ⟨_, _, rfl, .of (W.sub _ _ hM), by rw [r.length]; exact hl, R, H0, M0, M, δ, xs, _, W, S, r, q, hQ⟩
def dAsg (te : TED) (g : TGD) : TSD := fun E δ => te δ fun e δ' => ∃ x, e = .d x ∧ g x δ' E.nx
theorem psd_asg (he : PD X z e te) (hg : PGD X z vs tg g) (hs : swapsWithSole [tg] e pos.line X.env = pure false := by rfl) (hw : swappedStores [tg] e X.env = pure none := by rfl)
    (h1 : (assignEach [tg] X.env).map (·.2) = [assign tg X.env] := by rfl) : PSD X z (.Assign [tg] e pos) (dAsg te g) :=
  PS.imp (ps_asg he hg hs hw h1) fun D σ H ⟨R, H0, M0, Mb, M, δ, ED, hO, W, sb, S, ht, hD⟩ => ⟨R, H0, M0, M, δ, _, hO, W, S, ht, fun e δ' v H' M' q W' s' S' r => by
    obtain ⟨x, rfl, q⟩ := q
    exact ⟨R, H0, M0, M', δ', x, _, W', S', r, q, fun δ2 σ2 q2 S2 _ => hD.nx δ2 σ2 H' M' q2 W' (sb.trans s') S2⟩⟩
theorem psd_set {i : Nat} {x : Str} {pos' : Pos} (hN : X.N.Nodup) (hi : X.N[i]? = some x) (hx : Loc X.env.scope x) (he : PD X z e te) (hs : swapsWith e (some (.Name x pos')) pos.line X.env = pure false := by rfl) (hf : X.fn x = true ∨ X.env.scope.names.lookup x = some .local := by first | exact .inl rfl | exact .inr rfl | assumption) :
    PSD X z (.Assign [.Name x pos'] e pos) (dAsg te (gdName i)) :=
  PS.imp (ps_set hN hi hx he hs hf) fun D σ H ⟨R, H0, M0, Mb, M, δ, ED, hO, W, sb, S, ht, hD⟩ => ⟨R, H0, M0, M, δ, _, hO, W, S, ht, fun e δ' v H' M' q W' s' S' r => by
    obtain ⟨x, rfl, q⟩ := q
    exact hD.nx _ _ H' M' q W' (sb.trans s') (S'.set i r)⟩
end
end DL
/-! The data layer 3: what is walked, for, comprehensions. -/
namespace DL
open PySem PySem.Spec L2

/-- the iterator J hands out the data xs, standing on M0 -/
def RepIt (J : It) (xs : List PyData) (M0 : Hp) : Prop := ∀ (i : Nat) (H M : Hp), Same M0 M → Same M H →
  (i < xs.length → J.go i H) ∧ (xs.length ≤ i → J.stop i H) ∧ ∀ (x : V) (H' : Hp), i < xs.length → J.yld i H x H' → ∃ d, xs[i]? = some d ∧
    ((H' = H ∧ Rp M x d) ∨ ∃ T vs ds, x = .ref T ∧ H T = none ∧ H' = upd H T (.tup vs) ∧ vs.length ≤ sizeLine ∧ RpA M vs ds ∧ d = .tuple ds)
abbrev TID := DS → (List PyData → DS → Prop) → Prop
def liftI (K : PySem.W.Frag) (z : Z) (t : TID) : TI := fun σ H R' => ∃ (R : List RowP) (H0 M0 M : Hp) (δ : DS) (QD : List PyData → DS → Prop), Out K z R H0 M0 ∧ Wd K z.T R H0 M0 H M ∧ Slots R H0 H M σ δ ∧ t δ QD ∧
  ∀ (xs : List PyData) (δ' : DS) (J : It) (H' M' : Hp), QD xs δ' → Wd K z.T R H0 M0 H' M' → Same M M' → Slots R H0 H' M' σ δ' → RepIt J xs M' → R' J H'
abbrev PID (X : Cx) (z : Z) (tg iter : Expr) (t : TID) : Prop := PI X tg iter (liftI X.K z t)
theorem PI.imp {X : Cx} {tg e : Expr} {t t' : TI} (h : PI X tg e t) (i : ∀ σ H Q, t' σ H Q → t σ H Q) : PI X tg e t' := ⟨fun pins s σ H Q I q => h.run pins s σ H Q I (i σ H Q q)⟩
section
variable {X : Cx} {z : Z} {tg e e2 : Expr} {te te2 : TED} {ta : TAD} {pos p : Pos}
def diL (te : TED) : TID := fun δ Q => te δ fun e δ' => ∃ xs, e = .d (.list xs) ∧ Q xs δ'
def diT (te : TED) : TID := fun δ Q => te δ fun e δ' => ∃ xs, e = .d (.tuple xs) ∧ Q xs δ'
theorem rep_list {K : PySem.W.Frag} {a : Addr} {vs : List V} {xs : List PyData} {M0 : Hp} (h : M0 a = some (.lst vs)) (r : RpA M0 vs xs) : RepIt (Itl K a) xs M0 := fun i H M s1 s2 => by
  have hs : SqL K H a vs := .of (s2 _ _ (s1 _ _ h))
  refine ⟨fun hi => ?_, fun hi => ⟨vs, hs, by rw [r.length]; exact hi⟩, fun x H' hi ⟨e, y⟩ => ?_⟩
  · obtain ⟨v, e1, _⟩ := r.get (List.getElem?_eq_getElem hi)
    exact ⟨vs, v, hs, e1⟩
  · obtain ⟨d, e1, rd⟩ := r.getV (y vs hs)
    exact ⟨d, e1, .inl ⟨e, rd.mono s1⟩⟩
theorem rep_tup {K : PySem.W.Frag} {a : Addr} {vs : List V} {xs : List PyData} {M0 : Hp} (h : M0 a = some (.tup vs)) (r : RpA M0 vs xs) : RepIt (Itt K a) xs M0 := fun i H M s1 s2 => by
  have hs : SqT K H a vs := .of (s2 _ _ (s1 _ _ h))
  refine ⟨fun hi => ?_, fun hi => ⟨vs, hs, by rw [r.length]; exact hi⟩, fun x H' hi ⟨e, y⟩ => ?_⟩
  · obtain ⟨v, e1, _⟩ := r.get (List.getElem?_eq_getElem hi)
    exact ⟨vs, v, hs, e1⟩
  · obtain ⟨d, e1, rd⟩ := r.getV (y vs hs)
    exact ⟨d, e1, .inl ⟨e, rd.mono s1⟩⟩
theorem pid_list (h : PD X z e te) : PID X z tg e (diL te) := PI.imp (pi_list h) fun σ H R' ⟨R, H0, M0, M, δ, QD, hO, W, S, ht, hQ⟩ =>
  ⟨R, H0, M0, M, δ, _, hO, W, S, ht, fun e δ' v H' M' q W' s' S' r => by
    obtain ⟨xs, rfl, q⟩ := q
    cases r with
    | lst hM hz r => exact ⟨_, rfl, ⟨_, .of (W'.sub _ _ hM)⟩, hQ _ _ _ _ _ q W' s' S' (rep_list hM r)⟩⟩
theorem pid_tup (h : PD X z e te) : PID X z tg e (diT te) := PI.imp (pi_tup h) fun σ H R' ⟨R, H0, M0, M, δ, QD, hO, W, S, ht, hQ⟩ =>
  ⟨R, H0, M0, M, δ, _, hO, W, S, ht, fun e δ' v H' M' q W' s' S' r => by
    obtain ⟨xs, rfl, q⟩ := q
    cases r with
    | tup hM hz r => exact ⟨_, rfl, ⟨_, .of (W'.sub _ _ hM)⟩, hQ _ _ _ _ _ q W' s' S' (rep_tup hM r)⟩⟩
/-- lo, lo + 1, .. -/
def rng (lo : Int) (n : Nat) : List PyData := (List.range n).map fun (i : Nat) => PyData.int (lo + i)
theorem rng_length {lo : Int} {n : Nat} : (rng lo n).length = n := by simp [rng]
theorem rep_range {lo : Int} {n : Nat} {M0 : Hp} : RepIt (Itr lo n) (rng lo n) M0 := fun i H M s1 s2 => by
  rw [rng_length]
  refine ⟨fun hi => hi, fun hi => hi, fun x H' hi ⟨e, y⟩ => ⟨.int (lo + i), by simp [rng, hi], .inl ⟨e, ?_⟩⟩⟩
  rw [y]
  exact .int _
def diR1 (ta : TAD) : TID := fun δ Q => ta δ fun es δ' => ∃ j : Int, es = [.d (.int j)] ∧ -(2 ^ 62) ≤ j ∧ j < 2 ^ 62 ∧ Q (rng 0 j.toNat) δ'
def diR2 (ta : TAD) : TID := fun δ Q => ta δ fun es δ' => ∃ i j : Int, es = [.d (.int i), .d (.int j)] ∧ (-(2 ^ 62) ≤ i ∧ i < 2 ^ 62 ∧ -(2 ^ 62) ≤ j ∧ j < 2 ^ 62) ∧ Q (rng i (j - i).toNat) δ'
theorem EVA.one {σ : L2.St} {M : Hp} {vs : List V} {e : EV} (h : EVA σ M vs [e]) : ∃ v, vs = [v] ∧ EVr σ M v e := by
  cases h with
  | cons a b => cases b; exact ⟨_, rfl, a⟩
theorem EVA.two {σ : L2.St} {M : Hp} {vs : List V} {e e' : EV} (h : EVA σ M vs [e, e']) : ∃ v v', vs = [v, v'] ∧ EVr σ M v e ∧ EVr σ M v' e' := by
  cases h with
  | cons a b =>
    obtain ⟨v, rfl, c⟩ := EVA.one b
    exact ⟨_, _, rfl, a, c⟩
theorem Rp.int_eq {M : Hp} {v : V} {i : Int} (h : Rp M v (.int i)) : v = .int i := by cases h; rfl
theorem Rp.str_eq {M : Hp} {v : V} {i : Str} (h : Rp M v (.str i)) : v = .str i := by cases h; rfl
theorem Rp.bool_eq {M : Hp} {v : V} {i : Bool} (h : Rp M v (.bool i)) : v = .bl i := by cases h; rfl
theorem Rp.none_eq {M : Hp} {v : V} (h : Rp M v .none) : v = .non := by cases h; rfl
theorem pid_range1 {a : Expr} (hg : Gl X "range") (hm : X.mg "range" = none) (ha : PAD X z [a] ta) (hs : starEach [a] X.env = [(false, eval a X.env)] := by rfl) : PID X z tg (.Call (.Name "range" p) [a] [] pos) (diR1 ta) :=
  PI.imp (pi_range1 hg hm ha hs) fun σ H R' ⟨R, H0, M0, M, δ, QD, hO, W, S, ht, hQ⟩ => ⟨R, H0, M0, M, δ, _, hO, W, S, ht, fun e δ' v H' M' q W' s' S' r => by
    obtain ⟨j, rfl, h1, h2, q⟩ := q
    obtain ⟨v, rfl, r1⟩ := r.one
    have ev : v = .int j := Rp.int_eq (show Rp M' v (.int j) from r1)
    exact ⟨j, by rw [ev], h1, h2, hQ _ _ _ _ _ q W' s' S' rep_range⟩⟩
theorem pid_range2 {a b : Expr} (hg : Gl X "range") (hm : X.mg "range" = none) (ha : PAD X z [a, b] ta) (hs : starEach [a, b] X.env = [(false, eval a X.env), (false, eval b X.env)] := by rfl) (hs2 : starEach [b] X.env = [(false, eval b X.env)] := by rfl) :
    PID X z tg (.Call (.Name "range" p) [a, b] [] pos) (diR2 ta) :=
  PI.imp (pi_range2 hg hm ha hs hs2) fun σ H R' ⟨R, H0, M0, M, δ, QD, hO, W, S, ht, hQ⟩ => ⟨R, H0, M0, M, δ, _, hO, W, S, ht, fun e δ' v H' M' q W' s' S' r => by
    obtain ⟨i, j, rfl, hb, q⟩ := q
    obtain ⟨v, v', rfl, r1, r2⟩ := r.two
    have e1 : v = .int i := Rp.int_eq (show Rp M' v (.int i) from r1)
    have e2 : v' = .int j := Rp.int_eq (show Rp M' v' (.int j) from r2)
    exact ⟨i, j, by rw [e1, e2], hb, hQ _ _ _ _ _ q W' s' S' rep_range⟩⟩
/-- pairs out of two rows, made as they are walked -/
def pairD (a b : PyData) : PyData := .tuple [a, b]
def zipD (xs ys : List PyData) : List PyData := List.zipWith pairD xs ys
theorem zipD_length {xs ys : List PyData} : (zipD xs ys).length = min xs.length ys.length := by simp [zipD]
theorem zipD_get {xs ys : List PyData} {i : Nat} (h : i < min xs.length ys.length) : ∃ x y, xs[i]? = some x ∧ ys[i]? = some y ∧ (zipD xs ys)[i]? = some (pairD x y) := by
  have h1 : i < xs.length := by omega
  have h2 : i < ys.length := by omega
  exact ⟨xs[i], ys[i], by simp [h1], by simp [h2], by simp [zipD, List.getElem?_zipWith, h1, h2]⟩
theorem two_le : ([] : List V).length + 2 ≤ sizeLine := by show 2 ≤ sizeLine; decide
theorem rep_zipL {K : PySem.W.Frag} {a b : Addr} {vs ws : List V} {xs ys : List PyData} {M0 : Hp} (h : M0 a = some (.lst vs)) (r : RpA M0 vs xs) (h' : M0 b = some (.lst ws)) (r' : RpA M0 ws ys) : RepIt (Itz K a b) (zipD xs ys) M0 := fun i H M s1 s2 => by
  have hs : SqL K H a vs := .of (s2 _ _ (s1 _ _ h))
  have hs' : SqL K H b ws := .of (s2 _ _ (s1 _ _ h'))
  have l1 := r.length
  have l2 := r'.length
  rw [zipD_length]
  refine ⟨fun hi => ?_, fun hi => ⟨vs, ws, hs, hs', ?_⟩, fun x H' hi ⟨T, x1, y1, e1, e2, e3, f1, f2⟩ => ?_⟩
  · obtain ⟨x, y, ex, ey, _⟩ := zipD_get hi
    obtain ⟨v, ev, _⟩ := r.get ex
    obtain ⟨w, ew, _⟩ := r'.get ey
    exact ⟨vs, ws, v, w, hs, hs', ev, ew⟩
  · omega
  · obtain ⟨x2, y2, ex, ey, ez⟩ := zipD_get hi
    obtain ⟨v, ev, rv⟩ := r.get ex
    obtain ⟨w, ew, rw'⟩ := r'.get ey
    have := f1 vs hs; rw [ev] at this; cases this
    have := f2 ws hs'; rw [ew] at this; cases this
    exact ⟨_, ez, .inr ⟨T, _, [x2, y2], e1, e2, e3, two_le, .cons (rv.mono s1) (.cons (rw'.mono s1) .nil), rfl⟩⟩
theorem rep_zipT {K : PySem.W.Frag} {a b : Addr} {vs ws : List V} {xs ys : List PyData} {M0 : Hp} (h : M0 a = some (.tup vs)) (r : RpA M0 vs xs) (h' : M0 b = some (.tup ws)) (r' : RpA M0 ws ys) : RepIt (RZ.ItzT K a b) (zipD xs ys) M0 := fun i H M s1 s2 => by
  have hs : SqT K H a vs := .of (s2 _ _ (s1 _ _ h))
  have hs' : SqT K H b ws := .of (s2 _ _ (s1 _ _ h'))
  have l1 := r.length
  have l2 := r'.length
  rw [zipD_length]
  refine ⟨fun hi => ?_, fun hi => ⟨vs, ws, hs, hs', ?_⟩, fun x H' hi ⟨T, x1, y1, e1, e2, e3, f1, f2⟩ => ?_⟩
  · obtain ⟨x, y, ex, ey, _⟩ := zipD_get hi
    obtain ⟨v, ev, _⟩ := r.get ex
    obtain ⟨w, ew, _⟩ := r'.get ey
    exact ⟨vs, ws, v, w, hs, hs', ev, ew⟩
  · omega
  · obtain ⟨x2, y2, ex, ey, ez⟩ := zipD_get hi
    obtain ⟨v, ev, rv⟩ := r.get ex
    obtain ⟨w, ew, rw'⟩ := r'.get ey
    have := f1 vs hs; rw [ev] at this; cases this
    have := f2 ws hs'; rw [ew] at this; cases this
    exact ⟨_, ez, .inr ⟨T, _, [x2, y2], e1, e2, e3, two_le, .cons (rv.mono s1) (.cons (rw'.mono s1) .nil), rfl⟩⟩
def diZip (ta : TAD) : TID := fun δ Q => ta δ fun es δ' => ∃ xs ys, (es = [.d (.list xs), .d (.list ys)] ∨ es = [.d (.tuple xs), .d (.tuple ys)]) ∧ Q (zipD xs ys) δ'
theorem pid_zip {tpos : Pos} {elts : List Expr} {kk : Nat} (hg : Gl X "zip") (hm : X.mg "zip" = none) (ha : PAD X z [e, e2] ta)
    (hs : starEach [e, e2] X.env = (false, eval e X.env) :: starEach [e2] X.env := by rfl) (hpl : (backTo pos (starEach [e2] X.env)).any (·.1) = false := by rfl) : PID X z (.Tuple elts kk tpos) (.Call (.Name "zip" p) [e, e2] [] pos) (diZip ta) :=
  PI.imp (RZ.pi_zipA hg hm ha hs hpl) fun σ H R' ⟨R, H0, M0, M, δ, QD, hO, W, S, ht, hQ⟩ => ⟨R, H0, M0, M, δ, _, hO, W, S, ht, fun e δ' v H' M' q W' s' S' r => by
    obtain ⟨xs, ys, (rfl | rfl), q⟩ := q
    · obtain ⟨v, v', rfl, r1, r2⟩ := r.two
      cases r1 with
      | lst h1 z1 r1 =>
        cases r2 with
        | lst h2 z2 r2 => exact ⟨_, _, _, _, rfl, .inl ⟨.of (W'.sub _ _ h1), .of (W'.sub _ _ h2), hQ _ _ _ _ _ q W' s' S' (rep_zipL h1 r1 h2 r2)⟩⟩
    · obtain ⟨v, v', rfl, r1, r2⟩ := r.two
      cases r1 with
      | tup h1 z1 r1 =>
        cases r2 with
        | tup h2 z2 r2 => exact ⟨_, _, _, _, rfl, .inr ⟨.of (W'.sub _ _ h1), .of (W'.sub _ _ h2), hQ _ _ _ _ _ q W' s' S' (rep_zipT h1 r1 h2 r2)⟩⟩⟩
/-- enumerate of a list -/
def enumD (xs : List PyData) : List PyData := zipD (rng 0 xs.length) xs
theorem enumD_length {xs : List PyData} : (enumD xs).length = xs.length := by simp [enumD, zipD_length, rng_length]
theorem rng_get {lo : Int} {n i : Nat} (h : i < n) : (rng lo n)[i]? = some (.int (lo + i)) := by simp [rng, h]
theorem enumD_get {xs : List PyData} {i : Nat} {x : PyData} (h : xs[i]? = some x) : (enumD xs)[i]? = some (pairD (.int (i : Nat)) x) := by
  have hi : i < xs.length := (List.getElem?_eq_some_iff.mp h).1
  obtain ⟨a, b, e1, e2, e3⟩ := zipD_get (xs := rng 0 xs.length) (ys := xs) (i := i) (by rw [rng_length]; omega)
  rw [h] at e2; cases e2
  rw [rng_get hi] at e1; cases e1
  rw [show enumD xs = zipD (rng 0 xs.length) xs from rfl, e3]
  simp
theorem rep_enum {K : PySem.W.Frag} {a : Addr} {vs : List V} {xs : List PyData} {M0 : Hp} (h : M0 a = some (.lst vs)) (r : RpA M0 vs xs) : RepIt (Ite K a) (enumD xs) M0 := fun i H M s1 s2 => by
  have hs : SqL K H a vs := .of (s2 _ _ (s1 _ _ h))
  have l1 := r.length
  rw [enumD_length]
  refine ⟨fun hi => ?_, fun hi => ⟨vs, hs, ?_⟩, fun x H' hi ⟨T, x1, e1, e2, e3, f1⟩ => ?_⟩
  · obtain ⟨v, ev, _⟩ := r.get (List.getElem?_eq_getElem hi)
    exact ⟨vs, v, hs, ev⟩
  · omega
  · have ex := List.getElem?_eq_getElem hi
    obtain ⟨v, ev, rv⟩ := r.get ex
    have := f1 vs hs; rw [ev] at this; cases this
    exact ⟨_, enumD_get ex, .inr ⟨T, _, [.int (i : Nat), xs[i]], e1, e2, e3, two_le, .cons (.int _) (.cons (rv.mono s1) .nil), rfl⟩⟩
def diEnum (ta : TAD) : TID := fun δ Q => ta δ fun es δ' => ∃ xs, es = [.d (.list xs)] ∧ Q (enumD xs) δ'
theorem pid_enum {tpos : Pos} {elts : List Expr} {kk : Nat} (hg : Gl X "enumerate") (hm : X.mg "enumerate" = none) (ha : PAD X z [e] ta) (hs : starEach [e] X.env = [(false, eval e X.env)] := by rfl) :
    PID X z (.Tuple elts kk tpos) (.Call (.Name "enumerate" p) [e] [] pos) (diEnum ta) :=
  PI.imp (pi_enum hg hm ha hs) fun σ H R' ⟨R, H0, M0, M, δ, QD, hO, W, S, ht, hQ⟩ => ⟨R, H0, M0, M, δ, _, hO, W, S, ht, fun e δ' v H' M' q W' s' S' r => by
    obtain ⟨xs, rfl, q⟩ := q
    obtain ⟨v, rfl, r1⟩ := r.one
    cases r1 with
    | lst h1 z1 r1 => exact ⟨_, _, rfl, .of (W'.sub _ _ h1), hQ _ _ _ _ _ q W' s' S' (rep_enum h1 r1)⟩⟩
/-- a text, sign by sign -/
def signsD (x : Str) : List PyData := x.cps.toList.map fun c => PyData.str ⟨#[c]⟩
def diStr (te : TED) : TID := fun δ Q => te δ fun e δ' => ∃ x, e = .d (.str x) ∧ Q (signsD x) δ'
theorem rep_str {x : Str} {M0 : Hp} : RepIt (Its x) (signsD x) M0 := fun i H M s1 s2 => by
  have l : (signsD x).length = x.cps.size := by simp [signsD]
  rw [l]
  refine ⟨fun hi => hi, fun hi => hi, fun y H' hi ⟨e, c, ec, ey⟩ => ⟨.str ⟨#[c]⟩, ?_, .inl ⟨e, ?_⟩⟩⟩
  · unfold signsD
    rw [List.getElem?_map, Array.getElem?_toList, ec]; rfl
  · rw [ey]; exact .str _
theorem pid_str (h : PD X z e te) : PID X z tg e (diStr te) := PI.imp (pi_str h) fun σ H R' ⟨R, H0, M0, M, δ, QD, hO, W, S, ht, hQ⟩ =>
  ⟨R, H0, M0, M, δ, _, hO, W, S, ht, fun e δ' v H' M' q W' s' S' r => by
    obtain ⟨x, rfl, q⟩ := q
    have ev : v = .str x := Rp.str_eq (show Rp M' v (.str x) from r)
    exact ⟨x, ev, hQ _ _ _ _ _ q W' s' S' rep_str⟩⟩
end

/-! ### for -/
section
variable {X : Cx} {z : Z} {tg iter : Expr} {body : List Stmt} {ti : TID} {g : TGD} {tb : TSD} {pos : Pos} {vs : List Nat}
def dFor (ti : TID) (g : TGD) (tb : TSD) : TSD := fun E δ => ti δ fun xs δ1 => ∃ I : Nat → DS → Prop, I 0 δ1 ∧ (∀ (k : Nat) (x : PyData) (δ : DS), xs[k]? = some x → I k δ → g x δ fun δ' => tb { E with nx := I (k + 1), ct := I (k + 1), bk := E.nx } δ') ∧ ∀ δ, I xs.length δ → E.nx δ
/-- what a turn's item leaves -/
theorem yield_step {K : PySem.W.Frag} {T : List Addr} {R : List RowP} {H0 M0 H M H' M1 : Hp} {J : It} {xs : List PyData} {i : Nat} {x : V} (rep : RepIt J xs M1) (W : Wd K T R H0 M0 H M) (s : Same M1 M) (hi : i < xs.length) (y : J.yld i H x H') :
    ∃ d M', xs[i]? = some d ∧ Wd K T R H M H' M' ∧ Rp M' x d := by
  obtain ⟨d, e, (⟨rfl, r⟩ | ⟨T', vs, ds, rfl, hn, rfl, hz, r, rfl⟩)⟩ := (rep i H M s W.sub).2.2 x H' hi y
  · exact ⟨d, M, e, W.refl, r⟩
  · have W2 := W.refl.alloc (o := .tup vs) hn trivial
    exact ⟨_, _, e, W2, .tup upd_same hz (r.mono W2.m0)⟩
theorem psd_for (hp : PassesOwn (model X.prog X.w) X.A X.env X.xe) (hc : X.calm = true) (hi : PID X z tg iter ti) (hg : PGD X z vs tg g) (hb : PSsD X z body tb)
    (hs : ∀ x, foldedSetIterable iter X.env x = pure x := by intro _; rfl) : PSD X z (.For tg iter body [] pos) (dFor ti g tb) :=
  PS.imp (ps_for hp hc hi hg hb hs) fun D σ H ⟨R, H0, M0, Mb, M, δ, ED, hO, W, sb, S, ht, hD⟩ => ⟨R, H0, M0, M, δ, _, hO, W, S, ht, fun xs δ1 J H1 M1 q W1 s1 S1 rep => by
    obtain ⟨I, h0, turn, fin⟩ := q
    refine ⟨fun i m σ H => m = xs.length - i ∧ i ≤ xs.length ∧ ∃ M δ, Wd X.K z.T R H0 M0 H M ∧ Same M1 M ∧ Slots R H0 H M σ δ ∧ I i δ, ⟨xs.length, by simp, Nat.zero_le _, M1, δ1, W1, Same.refl _, S1, h0⟩, ?_⟩
    rintro i m σ2 H2 ⟨rfl, hle, M2, δ2, W2, s2, S2, i2⟩
    by_cases hlt : i < xs.length
    · refine .inr ⟨(rep i H2 M2 s2 W2.sub).1 hlt, fun σ H => ∃ M δ, Wd X.K z.T R H0 M0 H M ∧ Same M1 M ∧ Slots R H0 H M σ δ ∧ I (i + 1) δ, fun σ' H' h => ⟨xs.length - (i + 1), by omega, rfl, hlt, h⟩, fun x H' y => ?_⟩
      obtain ⟨d, M3, e, W3, r⟩ := yield_step rep W2 s2 hlt y
      refine ⟨R, H0, M0, M3, δ2, d, _, W2.trans W3, S2.ext W2 W3, r, turn i d δ2 e i2, fun δ4 σ4 q4 S4 _ => ?_⟩
      refine ⟨R, H0, M0, M3, M3, δ4, _, hO, W2.trans W3, Same.refl _, S4, q4, ?_⟩
      exact { nx := fun δ5 σ5 H5 M5 q W5 s5 S5 => ⟨M5, δ5, W5, (s2.trans W3.m0).trans s5, S5, q⟩
              ct := fun δ5 σ5 H5 M5 q W5 s5 S5 => ⟨M5, δ5, W5, (s2.trans W3.m0).trans s5, S5, q⟩
              bk := fun δ5 σ5 H5 M5 q W5 s5 S5 => hD.nx _ _ _ M5 q W5 (((sb.trans s1).trans (s2.trans W3.m0)).trans s5) S5
              rt := hD.rt }
    · have e : i = xs.length := by omega
      subst e
      exact .inl ⟨(rep _ H2 M2 s2 W2.sub).2.1 (Nat.le_refl _), hD.nx _ _ _ M2 (fin δ2 i2) W2 ((sb.trans s1).trans s2) S2⟩⟩
end
end DL
/-! The data layer 4: list comprehensions. -/
namespace DL
open PySem PySem.Spec L2

def wipeD : DS → List Nat → DS
  | δ, [] => δ
  | δ, v :: vs => (wipeD δ vs).set v none
def noOwn : Option DV → Option DV
  | some (.d x) => some (.d x)
  | some .row => some .row
  | _ => none
/-- what a comprehension's block sees -/
def hide (δ : DS) (vs : List Nat) : DS := (wipeD δ vs).map noOwn
theorem wipeD_length (δ : DS) : ∀ vs, (wipeD δ vs).length = δ.length
  | [] => rfl
  | v :: vs => by rw [wipeD, List.length_set, wipeD_length δ vs]
theorem wipeD_some {δ : DS} {i : Nat} {x : DV} : ∀ {vs : List Nat}, (wipeD δ vs)[i]? = some (some x) → δ[i]? = some (some x) ∧ i ∉ vs
  | [], h => ⟨h, by simp⟩
  | v :: vs, h => by
    by_cases hv : v = i
    · subst hv
      by_cases hl : v < (wipeD δ vs).length
      · rw [wipeD, List.getElem?_set_self hl] at h; cases h
      · rw [wipeD, List.getElem?_eq_none (by rw [List.length_set]; omega)] at h; cases h
    · rw [wipeD, List.getElem?_set_ne hv] at h
      obtain ⟨a, b⟩ := wipeD_some h
      exact ⟨a, by simp only [List.mem_cons, not_or]; exact ⟨fun e => hv e.symm, b⟩⟩
theorem wipe_at {σ : L2.St} {j : Nat} : ∀ {vs : List Nat}, j ∈ vs → j < σ.length → (wipe σ vs)[j]? = some none
  | v :: vs, h, hl => by
    by_cases hv : v = j
    · subst hv
      rw [wipe, List.getElem?_set_self (by rw [wipe_length]; exact hl)]
    · rw [wipe, List.getElem?_set_ne hv]
      exact wipe_at ((List.mem_cons.mp h).resolve_left fun e => hv e.symm) hl
theorem wipe_eq {σ σ2 : L2.St} {vs : List Nat} (b : ButAt vs (wipe σ vs) σ2) : wipe σ2 vs = wipe σ vs := by
  have hl : σ2.length = σ.length := b.1.trans (wipe_length _ _)
  refine List.ext_getElem? fun j => ?_
  by_cases hj : j ∈ vs
  · by_cases h : j < σ.length
    · rw [wipe_at hj h, wipe_at hj (by omega)]
    · rw [List.getElem?_eq_none (by rw [wipe_length]; omega), List.getElem?_eq_none (by rw [wipe_length]; omega)]
  · rw [wipe_out hj, b.2 j hj]
section
variable {K : PySem.W.Frag} {T : List Addr} {R : List RowP} {H0 M0 H M H' M' Hb : Hp} {σ : L2.St} {δ : DS}
theorem noOwn_some {o : Option DV} {x : DV} (h : noOwn o = some x) : o = some x ∧ x.isOwn = false := by
  cases o with
  | none => cases h
  | some y => cases y <;> first | (cases h; exact ⟨rfl, rfl⟩) | cases h
theorem hide_some {i : Nat} {x : DV} {vs : List Nat} (h : (hide δ vs)[i]? = some (some x)) : δ[i]? = some (some x) ∧ i ∉ vs ∧ x.isOwn = false := by
  unfold hide at h
  rw [List.getElem?_map] at h
  cases e : (wipeD δ vs)[i]? with
  | none => rw [e] at h; cases h
  | some o =>
    rw [e] at h
    obtain ⟨rfl, ho⟩ := noOwn_some (Option.some.inj h)
    obtain ⟨a, b⟩ := wipeD_some e
    exact ⟨a, b, ho⟩
theorem Slots.hide (S : Slots R H0 H M σ δ) (vs : List Nat) : Slots R Hb H M (wipe σ vs) (hide δ vs) where
  len := by rw [wipe_length, DL.hide, List.length_map, wipeD_length]; exact S.len
  at_ := fun i x e => by
    obtain ⟨e1, hv, ho⟩ := hide_some e
    obtain ⟨v, e2, c, _⟩ := S.at_ i x e1
    exact ⟨v, by rw [wipe_out hv]; exact e2, c, fun q => by rw [ho] at q; cases q⟩
  sep := fun i j x y v e1 e2 o1 _ _ _ => by
    obtain ⟨_, _, ho⟩ := hide_some e1
    rw [ho] at o1; cases o1
theorem Wd.own_M (w' : Wd K T R H M H' M') {a : Addr} {u : HO} (h : H a = some u) (hM : M a = none) : M' a = none := by
  cases q : M' a with
  | none => rfl
  | some u' =>
    rcases w'.fr a (by rw [q]; simp) with y | y
    · exact (y hM).elim
    · rw [h] at y; cases y
/-- a slot takes a new owned thing -/
theorem Slots.setOwn (S : Slots R H0 H M σ δ) (i : Nat) {a : Addr} {x : DV} (ho : x.isOwn = true) (c : DVc R H M (.ref a) x) (n : H0 a = none) (hM : M a = none) (fresh : ∀ (j : Nat) (y : DV), δ[j]? = some (some y) → y.isOwn = true → σ[j]? ≠ some (some (.ref a))) :
    Slots R H0 H M (σ.set i (some (.ref a))) (δ.set i (some x)) where
  len := by simpa using S.len
  at_ := fun j y e => by
    by_cases hj : i = j
    · subst hj
      have hi : i < δ.length := by
        obtain ⟨h, _⟩ := List.getElem?_eq_some_iff.mp e
        simpa using h
      rw [List.getElem?_set_self hi] at e
      cases e
      exact ⟨.ref a, by rw [List.getElem?_set_self (by rw [S.len]; exact hi)], c, fun _ => ⟨a, rfl, n, hM⟩⟩
    · rw [List.getElem?_set_ne hj] at e
      obtain ⟨v', e1, c⟩ := S.at_ j y e
      exact ⟨v', by rw [List.getElem?_set_ne hj]; exact e1, c⟩
  sep := fun j k y z u e1 e2 o1 o2 e3 e4 => by
    by_cases hj : i = j
    · by_cases hk : i = k
      · exact hj.symm.trans hk
      · subst hj
        have hi : i < δ.length := by
          obtain ⟨h, _⟩ := List.getElem?_eq_some_iff.mp e1
          simpa using h
        rw [List.getElem?_set_self (by rw [S.len]; exact hi)] at e3
        cases e3
        rw [List.getElem?_set_ne hk] at e2 e4
        exact (fresh k z e2 o2 e4).elim
    · by_cases hk : i = k
      · subst hk
        have hi : i < δ.length := by
          obtain ⟨h, _⟩ := List.getElem?_eq_some_iff.mp e2
          simpa using h
        rw [List.getElem?_set_self (by rw [S.len]; exact hi)] at e4
        cases e4
        rw [List.getElem?_set_ne hj] at e1 e3
        exact (fresh j y e1 o1 e3).elim
      · rw [List.getElem?_set_ne hj] at e1 e3
        rw [List.getElem?_set_ne hk] at e2 e4
        exact S.sep j k y z u e1 e2 o1 o2 e3 e4
/-- nothing owned stands where nothing stood -/
theorem Slots.fresh (S : Slots R H0 H M σ δ) {a : Addr} (n : H a = none) (j : Nat) (y : DV) (e : δ[j]? = some (some y)) (o : y.isOwn = true) : σ[j]? ≠ some (some (.ref a)) := fun e2 => by
  obtain ⟨v, e1, c, _⟩ := S.at_ j y e
  rw [e1] at e2
  cases e2
  obtain ⟨a', u, ea, hu, _⟩ := c.own_obj o
  cases ea
  rw [n] at hu; cases hu
end

section
variable {X : Cx} {z : Z} {tg iter elt : Expr} {ifs : List Expr} {ti : TID} {g : TGD} {tt : TTD} {te : TED} {pos : Pos} {vs : List Nat}
abbrev PTsD (X : Cx) (z : Z) (ifs : List Expr) (t : TTD) : Prop := PTs X ifs (liftT X.K z t)
def dYes : TTD := fun δ Q => Q true δ
theorem PTs.imp {X : Cx} {e : List Expr} {t t' : TT} (h : PTs X e t) (i : ∀ σ H Q, t' σ H Q → t σ H Q) : PTs X e t' := ⟨fun pins s σ H Q I q => h.run pins s σ H Q I (i σ H Q q)⟩
theorem ptsd_nil : PTsD X z [] dYes := PTs.imp pts_nil fun σ H Q ⟨R, H0, M0, M, δ, QD, hO, W, S, ht, hQ⟩ => hQ _ _ H M ht W (Same.refl _) S
theorem ptsd_one {c : Expr} {t : TTD} (h : PTD X z c t) : PTsD X z [c] t := pts_one h
/-- what a list comprehension comes to: the list so far, by the turn -/
def lcD (xs : List PyData) (δ1 : DS) (g : TGD) (tt : TTD) (te : TED) (vs : List Nat) (Q : List PyData → Prop) : Prop :=
  xs.length ≤ sizeLine ∧ ∃ I : Nat → List PyData → Prop, I 0 [] ∧ (∀ (k : Nat) (x : PyData) (acc : List PyData), xs[k]? = some x → I k acc → g x (hide δ1 vs) fun δ2 => tt δ2 fun b δ3 =>
    if b = true then te δ3 fun y _ => ∃ yd, y = .d yd ∧ I (k + 1) (acc ++ [yd]) else I (k + 1) acc) ∧ ∀ acc, I xs.length acc → Q acc
def dLc (ti : TID) (g : TGD) (tt : TTD) (te : TED) (vs : List Nat) : TED := fun δ Q => ti δ fun xs δ1 => lcD xs δ1 g tt te vs fun acc => Q (.d (.list acc)) δ1
theorem lc_run {K : PySem.W.Frag} {R : List RowP} {H0 M0 H1 M1 : Hp} {σ : L2.St} {δ1 : DS} {J : It} {xs : List PyData} {D : Addr} {QL : List PyData → Prop} {Fin : Hp → Prop} (W1 : Wd K z.T R H0 M0 H1 M1) (S1 : Slots R H0 H1 M1 σ δ1) (rep : RepIt J xs M1) (hD : H1 D = none)
    (q : lcD xs δ1 g tt te vs QL) (hF : ∀ (H M : Hp) (va : List V) (acc : List PyData), Wd K z.T R H1 M1 H M → H D = some (.lst va) → M D = none → va.length ≤ sizeLine → RpA M va acc → QL acc → Fin H) :
    ∃ W : Nat → Nat → Hp → Prop, (∃ m, W 0 m (upd H1 D (.lst []))) ∧ ∀ i m H, W i m H →
      (J.stop i H ∧ Fin H) ∨ (J.go i H ∧ ∃ Nx : Hp → Prop, (∀ H', Nx H' → ∃ m', m' < m ∧ W (i + 1) m' H') ∧ ∀ x H', J.yld i H x H' → liftG K z.nox vs g x (wipe σ vs) H' fun σ2 H2 => wipe σ2 vs = wipe σ vs ∧ liftT K z.nox tt σ2 H2 fun b H3 =>
        if b = true then liftE K z.nox te σ2 H3 fun y H4 => ∃ acc, H4 D = some (.lst acc) ∧ acc.length < sizeLine ∧ Nx (upd H4 D (.lst (acc ++ [y]))) else Nx H3) := by
  obtain ⟨hz, I, h0, turn, fin⟩ := q
  refine ⟨fun i m H => m = xs.length - i ∧ i ≤ xs.length ∧ ∃ M va acc, Wd K z.T R H1 M1 H M ∧ H D = some (.lst va) ∧ M D = none ∧ RpA M va acc ∧ acc.length ≤ i ∧ I i acc,
    ⟨xs.length, by simp, Nat.zero_le _, M1, [], [], W1.refl.lay hD, upd_same, W1.newM hD, .nil, Nat.le_refl _, h0⟩, ?_⟩
  rintro i m H2 ⟨rfl, hle, M2, va, acc, W2, hl, hM, r, ha, i2⟩
  have lv := r.length
  by_cases hlt : i < xs.length
  · refine .inr ⟨(rep i H2 M2 W2.m0 W2.sub).1 hlt, fun H => ∃ M va acc, Wd K z.T R H1 M1 H M ∧ H D = some (.lst va) ∧ M D = none ∧ RpA M va acc ∧ acc.length ≤ i + 1 ∧ I (i + 1) acc, fun H' h => ⟨xs.length - (i + 1), by omega, rfl, hlt, h⟩, fun x H3 y => ?_⟩
    obtain ⟨d, M3, e, W3, rd⟩ := yield_step rep W2 W2.m0 hlt y
    have k3 : H3 D = some (.lst va) := (W2.own_keep W3 hl (fun ps q => by cases q) hD).trans hl
    have m3 : M3 D = none := W3.own_M hl hM
    have W3' := W2.trans W3
    have S3 : Slots R H3 H3 M3 (wipe σ vs) (hide δ1 vs) := (S1.ext W1 W3').hide vs
    refine ⟨R, H3, M3, M3, hide δ1 vs, d, _, W3'.refl, S3, rd, turn i d acc e i2, fun δ2 σ2 q2 S2 bt => ⟨wipe_eq bt, ?_⟩⟩
    refine ⟨R, H3, M3, M3, δ2, _, Out.nox, W3'.refl, S2, q2, fun b δ3 H4 M4 q4 W4 s4 S4 => ?_⟩
    cases b with
    | true =>
      rw [if_pos rfl] at q4 ⊢
      refine ⟨R, H3, M3, M4, δ3, _, Out.nox, W4, S4, q4, fun y' δ5 v H5 M5 q5 W5 s5 S5 r5 => ?_⟩
      obtain ⟨yd, rfl, i5⟩ := q5
      have k5 : H5 D = some (.lst va) := (W3'.own_keep W5 k3 (fun ps q => by cases q) hD).trans k3
      have m5 : M5 D = none := W5.own_M k3 m3
      refine ⟨va, k5, by omega, M5, _, acc ++ [yd], (W3'.trans W5).write k5 hD m5 (fun ps q => by cases q), upd_same, m5, RpA.append (r.mono (W3.m0.trans W5.m0)) (.one r5), by simp; omega, i5⟩
    | false =>
      rw [if_neg Bool.false_ne_true] at q4 ⊢
      have k4 : H4 D = some (.lst va) := (W3'.own_keep W4 k3 (fun ps q => by cases q) hD).trans k3
      have m4 : M4 D = none := W4.own_M k3 m3
      exact ⟨M4, va, acc, W3'.trans W4, k4, m4, r.mono (W3.m0.trans W4.m0), by omega, q4⟩
  · have e : i = xs.length := by omega
    subst e
    exact .inl ⟨(rep _ H2 M2 W2.m0 W2.sub).2.1 (Nat.le_refl _), hF H2 M2 va acc W2 hl hM (by omega) r (fin acc i2)⟩
variable {scope : Scope} {own : List (Str × Nat)}
theorem pd_lc (hc : X.calm = true) (hN : X.N.Nodup) (hi : PID X z tg iter ti) (ok : BlkOk X.N X.env.scope scope own)
    (hg : ∀ (s : Shared) (H : Hp) (C : Addr) (cl : List (Str × Addr)) (fp : List Addr), PGD (X.blk s H scope (compEnvC scope cl C X.env) fp) z.nox (own.map (·.2)) tg g)
    (ht : ∀ (s : Shared) (H : Hp) (C : Addr) (cl : List (Str × Addr)) (fp : List Addr), PTsD (X.blk s H scope (compEnvC scope cl C X.env) fp) z.nox ifs tt)
    (he : ∀ (s : Shared) (H : Hp) (C : Addr) (cl : List (Str × Addr)) (fp : List Addr), PD (X.blk s H scope (compEnvC scope cl C X.env) fp) z.nox elt te) (hs : ∀ x, foldedSetIterable iter X.env x = pure x := by intro _; rfl) :
    PD X z (.ListComp elt [⟨tg, iter, ifs, 0⟩] scope pos) (dLc ti g tt te (own.map (·.2))) :=
  PE.imp (pe_lc hc hN hi ok hg ht he hs) fun σ H Q ⟨R, H0, M0, M, δ, QD, hO, W, S, ht, hQ⟩ => ⟨R, H0, M0, M, δ, _, hO, W, S, ht, fun xs δ1 J H1 M1 q W1 s1 S1 rep D hD =>
    lc_run W1 S1 rep hD q fun H2 M2 va acc W2 hl hM hz r qa => by
      have W3 := W2.share hl hD hM trivial
      exact hQ _ _ _ _ _ qa (W1.trans W3) (s1.trans W3.m0) (S1.ext W1 W3) (.lst upd_same hz (r.mono (same_upd hM)))⟩
/-- y = [..], shared -/
theorem psd_setLc {i : Nat} {y : Str} {py spos : Pos} (hc : X.calm = true) (hN : X.N.Nodup) (hy : X.N[i]? = some y) (hyl : X.env.scope.names.lookup y = some .local)
    (hsw : swapsWith (.ListComp elt [⟨tg, iter, ifs, 0⟩] scope pos) (some (.Name y py)) spos.line X.env = pure true) (hi : PID X z tg iter ti) (ok : BlkOk X.N X.env.scope scope own)
    (hg : ∀ (s : Shared) (H : Hp) (C : Addr) (cl : List (Str × Addr)) (fp : List Addr), PGD (X.blk s H scope (compEnvC scope cl C X.env) fp) z.nox (own.map (·.2)) tg g)
    (ht : ∀ (s : Shared) (H : Hp) (C : Addr) (cl : List (Str × Addr)) (fp : List Addr), PTsD (X.blk s H scope (compEnvC scope cl C X.env) fp) z.nox ifs tt)
    (he : ∀ (s : Shared) (H : Hp) (C : Addr) (cl : List (Str × Addr)) (fp : List Addr), PD (X.blk s H scope (compEnvC scope cl C X.env) fp) z.nox elt te) (hs : ∀ x, foldedSetIterable iter X.env x = pure x := by intro _; rfl) :
    PSD X z (.Assign [.Name y py] (.ListComp elt [⟨tg, iter, ifs, 0⟩] scope pos) spos) (dAsg (dLc ti g tt te (own.map (·.2))) (gdName i)) :=
  PS.imp (ps_setLc hc hN hy hyl hsw hi ok hg ht he hs) fun D σ H ⟨R, H0, M0, Mb, M, δ, ED, hO, W, sb, S, ht, hD⟩ => ⟨R, H0, M0, M, δ, _, hO, W, S, ht, fun xs δ1 J H1 M1 q W1 s1 S1 rep L hL =>
    lc_run W1 S1 rep hL q fun H2 M2 va acc W2 hl hM hz r qa => by
      have W3 := W2.share hl hL hM trivial
      obtain ⟨x, e, qa⟩ := qa
      cases e
      exact hD.nx _ _ _ _ qa (W1.trans W3) ((sb.trans s1).trans W3.m0) ((S1.ext W1 W3).set i (.lst upd_same hz (r.mono (same_upd hM))))⟩
/-- y = [..], owned -/
def dLcOwn (i : Nat) (ti : TID) (g : TGD) (tt : TTD) (te : TED) (vs : List Nat) : TSD := fun E δ => ti δ fun xs δ1 => lcD xs δ1 g tt te vs fun acc => E.nx (δ1.set i (some (.own acc)))
theorem psd_setLcOwn {i : Nat} {y : Str} {py spos : Pos} (hc : X.calm = true) (hN : X.N.Nodup) (hy : X.N[i]? = some y) (hyl : X.env.scope.names.lookup y = some .local)
    (hsw : swapsWith (.ListComp elt [⟨tg, iter, ifs, 0⟩] scope pos) (some (.Name y py)) spos.line X.env = pure true) (hi : PID X z tg iter ti) (ok : BlkOk X.N X.env.scope scope own)
    (hg : ∀ (s : Shared) (H : Hp) (C : Addr) (cl : List (Str × Addr)) (fp : List Addr), PGD (X.blk s H scope (compEnvC scope cl C X.env) fp) z.nox (own.map (·.2)) tg g)
    (ht : ∀ (s : Shared) (H : Hp) (C : Addr) (cl : List (Str × Addr)) (fp : List Addr), PTsD (X.blk s H scope (compEnvC scope cl C X.env) fp) z.nox ifs tt)
    (he : ∀ (s : Shared) (H : Hp) (C : Addr) (cl : List (Str × Addr)) (fp : List Addr), PD (X.blk s H scope (compEnvC scope cl C X.env) fp) z.nox elt te) (hs : ∀ x, foldedSetIterable iter X.env x = pure x := by intro _; rfl) :
    PSD X z (.Assign [.Name y py] (.ListComp elt [⟨tg, iter, ifs, 0⟩] scope pos) spos) (dLcOwn i ti g tt te (own.map (·.2))) :=
  PS.imp (ps_setLc hc hN hy hyl hsw hi ok hg ht he hs) fun D σ H ⟨R, H0, M0, Mb, M, δ, ED, hO, W, sb, S, ht, hD⟩ => ⟨R, H0, M0, M, δ, _, hO, W, S, ht, fun xs δ1 J H1 M1 q W1 s1 S1 rep L hL =>
    lc_run W1 S1 rep hL q fun H2 M2 va acc W2 hl hM hz r qa =>
      hD.nx _ _ _ _ qa (W1.trans W2) ((sb.trans s1).trans W2.m0) ((S1.ext W1 W2).setOwn i (x := .own acc) rfl ⟨L, va, rfl, hl, hz, r⟩ (W1.new hL) hM fun j y e o e2 => S1.fresh hL j y e o e2)⟩

/-! ### two clauses -/
def lc2D (xs : List PyData) (δ1 : DS) (g : TGD) (tt : TTD) (ti1 : TID) (g1 : TGD) (tt1 : TTD) (te : TED) (vs vs1 : List Nat) (Q : List PyData → Prop) : Prop :=
  ∃ I : Nat → List PyData → Prop, I 0 [] ∧ (∀ (k : Nat) (x : PyData) (acc : List PyData), xs[k]? = some x → I k acc → g x (hide δ1 vs) fun δ2 => tt δ2 fun b δ3 =>
    if b = true then ti1 δ3 fun ys δ4 => ∃ I1 : Nat → List PyData → Prop, I1 0 acc ∧ (∀ (j : Nat) (y : PyData) (acc : List PyData), ys[j]? = some y → I1 j acc → g1 y (hide δ4 vs1) fun δ5 => tt1 δ5 fun b1 δ6 =>
      if b1 = true then te δ6 fun y _ => ∃ yd, y = .d yd ∧ acc.length < sizeLine ∧ I1 (j + 1) (acc ++ [yd]) else I1 (j + 1) acc) ∧ ∀ acc, I1 ys.length acc → I (k + 1) acc
    else I (k + 1) acc) ∧ ∀ acc, I xs.length acc → Q acc
def dLc2 (ti : TID) (g : TGD) (tt : TTD) (ti1 : TID) (g1 : TGD) (tt1 : TTD) (te : TED) (vs vs1 : List Nat) : TED := fun δ Q => ti δ fun xs δ1 => lc2D xs δ1 g tt ti1 g1 tt1 te vs vs1 fun acc => Q (.d (.list acc)) δ1
theorem lc2_run {K : PySem.W.Frag} {R : List RowP} {H0 M0 H1 M1 : Hp} {σ : L2.St} {δ1 : DS} {J : It} {xs : List PyData} {D : Addr} {QL : List PyData → Prop} {Fin : Hp → Prop} {ti1 : TID} {g1 : TGD} {tt1 : TTD} {vs1 : List Nat} (W1 : Wd K z.T R H0 M0 H1 M1) (S1 : Slots R H0 H1 M1 σ δ1) (rep : RepIt J xs M1) (hD : H1 D = none)
    (q : lc2D xs δ1 g tt ti1 g1 tt1 te vs vs1 QL) (hF : ∀ (H M : Hp) (va : List V) (acc : List PyData), Wd K z.T R H1 M1 H M → H D = some (.lst va) → M D = none → va.length ≤ sizeLine → RpA M va acc → QL acc → Fin H) :
    ∃ W : Nat → Nat → Hp → Prop, (∃ m, W 0 m (upd H1 D (.lst []))) ∧ ∀ i m H, W i m H →
      (J.stop i H ∧ Fin H) ∨ (J.go i H ∧ ∃ Nx : Hp → Prop, (∀ H', Nx H' → ∃ m', m' < m ∧ W (i + 1) m' H') ∧ ∀ x H', J.yld i H x H' → liftG K z.nox vs g x (wipe σ vs) H' fun σ2 H2 => wipe σ2 vs = wipe σ vs ∧ liftT K z.nox tt σ2 H2 fun b H3 =>
        if b = true then liftI K z.nox ti1 σ2 H3 fun J1 H4 => ∃ W1 : Nat → Nat → Hp → Prop, (∃ m, W1 0 m H4) ∧ ∀ j k H, W1 j k H →
          (J1.stop j H ∧ Nx H) ∨ (J1.go j H ∧ ∃ Nx1 : Hp → Prop, (∀ H', Nx1 H' → ∃ k', k' < k ∧ W1 (j + 1) k' H') ∧ ∀ x H', J1.yld j H x H' → liftG K z.nox vs1 g1 x (wipe σ2 vs1) H' fun σ3 H5 => wipe σ3 vs1 = wipe σ2 vs1 ∧ liftT K z.nox tt1 σ3 H5 fun b H6 =>
            if b = true then liftE K z.nox te σ3 H6 fun y H7 => ∃ acc, H7 D = some (.lst acc) ∧ acc.length < sizeLine ∧ Nx1 (upd H7 D (.lst (acc ++ [y]))) else Nx1 H6)
        else Nx H3) := by
  obtain ⟨I, h0, turn, fin⟩ := q
  -- the list as it stands: over H1, M1
  let Lst : Hp → (List PyData → Prop) → Prop := fun H P => ∃ M va acc, Wd K z.T R H1 M1 H M ∧ H D = some (.lst va) ∧ M D = none ∧ va.length ≤ sizeLine ∧ RpA M va acc ∧ P acc
  refine ⟨fun i m H => m = xs.length - i ∧ i ≤ xs.length ∧ Lst H (I i),
    ⟨xs.length, by simp, Nat.zero_le _, M1, [], [], W1.refl.lay hD, upd_same, W1.newM hD, Nat.zero_le _, .nil, h0⟩, ?_⟩
  rintro i m H2 ⟨rfl, hle, M2, va, acc, W2, hl, hM, hz, r, i2⟩
  have lv := r.length
  by_cases hlt : i < xs.length
  · refine .inr ⟨(rep i H2 M2 W2.m0 W2.sub).1 hlt, fun H => Lst H (I (i + 1)), fun H' h => ⟨xs.length - (i + 1), by omega, rfl, hlt, h⟩, fun x H3 y => ?_⟩
    obtain ⟨d, M3, e, W3, rd⟩ := yield_step rep W2 W2.m0 hlt y
    have k3 : H3 D = some (.lst va) := (W2.own_keep W3 hl (fun ps q => by cases q) hD).trans hl
    have m3 : M3 D = none := W3.own_M hl hM
    have W3' := W2.trans W3
    have S3 : Slots R H3 H3 M3 (wipe σ vs) (hide δ1 vs) := (S1.ext W1 W3').hide vs
    refine ⟨R, H3, M3, M3, hide δ1 vs, d, _, W3'.refl, S3, rd, turn i d acc e i2, fun δ2 σ2 q2 S2 bt => ⟨wipe_eq bt, ?_⟩⟩
    refine ⟨R, H3, M3, M3, δ2, _, Out.nox, W3'.refl, S2, q2, fun b δ3 H4 M4 q4 W4 s4 S4 => ?_⟩
    cases b with
    | false =>
      rw [if_neg Bool.false_ne_true] at q4 ⊢
      have k4 : H4 D = some (.lst va) := (W3'.own_keep W4 k3 (fun ps q => by cases q) hD).trans k3
      have m4 : M4 D = none := W4.own_M k3 m3
      exact ⟨M4, va, acc, W3'.trans W4, k4, m4, hz, r.mono (W3.m0.trans W4.m0), q4⟩
    | true =>
      rw [if_pos rfl] at q4 ⊢
      refine ⟨R, H3, M3, M4, δ3, _, Out.nox, W4, S4, q4, fun ys δ5 J1 H5 M5 q5 W5 s5 S5 rep1 => ?_⟩
      obtain ⟨I1, h1, turn1, fin1⟩ := q5
      have k5 : H5 D = some (.lst va) := (W3'.own_keep W5 k3 (fun ps q => by cases q) hD).trans k3
      have m5 : M5 D = none := W5.own_M k3 m3
      have W5' := W3'.trans W5
      -- within: over H5, M5 but for D
      refine ⟨fun j k H => k = ys.length - j ∧ j ≤ ys.length ∧ ∃ M va acc, Wd K z.T R H1 M1 H M ∧ Same M5 M ∧ Slots R H H M σ2 (hide δ5 []) ∧ H D = some (.lst va) ∧ M D = none ∧ va.length ≤ sizeLine ∧ RpA M va acc ∧ I1 j acc,
        ⟨ys.length, by simp, Nat.zero_le _, M5, va, acc, W5', Same.refl _, S5.hide [], k5, m5, hz, r.mono (W3.m0.trans W5.m0), h1⟩, ?_⟩
      rintro j k H6 ⟨rfl, hle1, M6, va6, acc6, W6, s6, S6, hl6, hM6, hz6, r6, i6⟩
      have lv6 := r6.length
      by_cases hlt1 : j < ys.length
      · refine .inr ⟨(rep1 j H6 M6 s6 W6.sub).1 hlt1, fun H => ∃ M va acc, Wd K z.T R H1 M1 H M ∧ Same M5 M ∧ Slots R H H M σ2 (hide δ5 []) ∧ H D = some (.lst va) ∧ M D = none ∧ va.length ≤ sizeLine ∧ RpA M va acc ∧ I1 (j + 1) acc, fun H' h => ⟨ys.length - (j + 1), by omega, rfl, hlt1, h⟩, fun x H7 y7 => ?_⟩
        obtain ⟨d7, M7, e7, W7, rd7⟩ := yield_step rep1 W6 s6 hlt1 y7
        have k7 : H7 D = some (.lst va6) := (W6.own_keep W7 hl6 (fun ps q => by cases q) hD).trans hl6
        have m7 : M7 D = none := W7.own_M hl6 hM6
        have W7' := W6.trans W7
        have S7' : Slots R H6 H7 M7 σ2 (hide δ5 []) := S6.ext W6.refl W7
        have hid : hide (hide δ5 []) vs1 = hide δ5 vs1 := by
          unfold hide
          refine List.ext_getElem? fun n => ?_
          rw [List.getElem?_map, List.getElem?_map]
          have idem : ∀ o, noOwn (noOwn o) = noOwn o := fun o => by
            cases o with
            | none => rfl
            | some y => cases y <;> rfl
          have gen : ∀ vs1 : List Nat, ((wipeD ((wipeD δ5 []).map noOwn) vs1)[n]?).map noOwn = ((wipeD δ5 vs1)[n]?).map noOwn := fun vs1 => by
            induction vs1 with
            | nil =>
              show ((List.map noOwn δ5)[n]?).map noOwn = _
              rw [List.getElem?_map]
              show _ = (δ5[n]?).map noOwn
              cases δ5[n]? with
              | none => rfl
              | some o => show some (noOwn (noOwn o)) = some (noOwn o); rw [idem]
            | cons v vs1 ih =>
              show (((wipeD ((wipeD δ5 []).map noOwn) vs1).set v none)[n]?).map noOwn = (((wipeD δ5 vs1).set v none)[n]?).map noOwn
              by_cases hv : v = n
              · subst hv
                have l1 := wipeD_length ((wipeD δ5 []).map noOwn) vs1
                have l2 := wipeD_length δ5 vs1
                have l3 : ((wipeD δ5 []).map noOwn).length = δ5.length := by rw [List.length_map]; rfl
                by_cases hn : v < δ5.length
                · rw [List.getElem?_set_self (by omega), List.getElem?_set_self (by omega)]
                · rw [List.getElem?_eq_none (by rw [List.length_set]; omega), List.getElem?_eq_none (by rw [List.length_set]; omega)]
              · rw [List.getElem?_set_ne hv, List.getElem?_set_ne hv]; exact ih
          exact gen vs1
        have S7 : Slots R H7 H7 M7 (wipe σ2 vs1) (hide δ5 vs1) := hid ▸ S7'.hide vs1
        refine ⟨R, H7, M7, M7, hide δ5 vs1, d7, _, W7'.refl, S7, rd7, turn1 j d7 acc6 e7 i6, fun δ8 σ8 q8 S8 bt8 => ⟨wipe_eq bt8, ?_⟩⟩
        refine ⟨R, H7, M7, M7, δ8, _, Out.nox, W7'.refl, S8, q8, fun b9 δ9 H9 M9 q9 W9 s9 S9 => ?_⟩
        have back : ∀ {H' M' : Hp}, Wd K z.T R H7 M7 H' M' → Slots R H' H' M' σ2 (hide δ5 []) := fun {H' M'} w => by
          have q := (S7'.ext W7 w).hide (Hb := H') []
          have e2 : hide (hide δ5 []) [] = hide δ5 [] := by
            unfold hide
            refine List.ext_getElem? fun n => ?_
            show ((((wipeD δ5 []).map noOwn).map noOwn)[n]?) = (((wipeD δ5 []).map noOwn)[n]?)
            rw [List.getElem?_map, List.getElem?_map]
            cases (wipeD δ5 [])[n]? with
            | none => rfl
            | some o => cases o with
              | none => rfl
              | some y => cases y <;> rfl
          rw [e2] at q
          exact q
        cases b9 with
        | true =>
          rw [if_pos rfl] at q9
          dsimp only
          rw [if_pos rfl]
          refine ⟨R, H7, M7, M9, δ9, _, Out.nox, W9, S9, q9, fun y10 δ10 v H10 M10 q10 W10 s10 S10 r10 => ?_⟩
          obtain ⟨yd, rfl, hlen, i10⟩ := q10
          have k10 : H10 D = some (.lst va6) := (W7'.own_keep W10 k7 (fun ps q => by cases q) hD).trans k7
          have m10 : M10 D = none := W10.own_M k7 m7
          have Wn := (W7'.trans W10).write k10 hD m10 (o' := .lst (va6 ++ [v])) (fun ps q => by cases q)
          have Sn := back W10
          refine ⟨va6, k10, by omega, M10, _, acc6 ++ [yd], Wn, (s6.trans W7.m0).trans W10.m0, ?_, upd_same, m10, by simp; omega, RpA.append (r6.mono (W7.m0.trans W10.m0)) (.one r10), i10⟩
          refine ⟨Sn.len, fun i x e => ?_, Sn.sep⟩
          obtain ⟨v', e1, c, o⟩ := Sn.at_ i x e
          obtain ⟨_, _, ho⟩ := hide_some e
          refine ⟨v', e1, c.mono (Same.refl _) (fun q => by rw [ho] at q; cases q), fun q => by rw [ho] at q; cases q⟩
        | false =>
          rw [if_neg Bool.false_ne_true] at q9
          dsimp only
          rw [if_neg Bool.false_ne_true]
          have k9 : H9 D = some (.lst va6) := (W7'.own_keep W9 k7 (fun ps q => by cases q) hD).trans k7
          have m9 : M9 D = none := W9.own_M k7 m7
          exact ⟨M9, va6, acc6, W7'.trans W9, (s6.trans W7.m0).trans W9.m0, back W9, k9, m9, hz6, r6.mono (W7.m0.trans W9.m0), q9⟩
      · have e : j = ys.length := by omega
        subst e
        exact .inl ⟨(rep1 _ H6 M6 s6 W6.sub).2.1 (Nat.le_refl _), M6, va6, acc6, W6, hl6, hM6, hz6, r6, fin1 acc6 i6⟩
  · have e : i = xs.length := by omega
    subst e
    exact .inl ⟨(rep _ H2 M2 W2.m0 W2.sub).2.1 (Nat.le_refl _), hF H2 M2 va acc W2 hl hM hz r (fin acc i2)⟩
variable {scope : Scope} {own : List (Str × Nat)} {tg1 iter1 : Expr} {ifs1 : List Expr} {ti1 : TID} {g1 : TGD} {tt1 : TTD} {vs1 : List Nat}
theorem pd_lc2 (hc : X.calm = true) (hN : X.N.Nodup) (hi : PID X z tg iter ti) (ok : BlkOk X.N X.env.scope scope own) (hv : ∀ i ∈ vs1, i ∈ own.map (·.2))
    (hg : ∀ (s : Shared) (H : Hp) (C : Addr) (cl : List (Str × Addr)) (fp : List Addr), PGD (X.blk s H scope (compEnvC scope cl C X.env) fp) z.nox (own.map (·.2)) tg g)
    (ht : ∀ (s : Shared) (H : Hp) (C : Addr) (cl : List (Str × Addr)) (fp : List Addr), PTsD (X.blk s H scope (compEnvC scope cl C X.env) fp) z.nox ifs tt)
    (hi1 : ∀ (s : Shared) (H : Hp) (C : Addr) (cl : List (Str × Addr)) (fp : List Addr), PID (X.blk s H scope (compEnvC scope cl C X.env) fp) z.nox tg1 iter1 ti1)
    (hg1 : ∀ (s : Shared) (H : Hp) (C : Addr) (cl : List (Str × Addr)) (fp : List Addr), PGD (X.blk s H scope (compEnvC scope cl C X.env) fp) z.nox vs1 tg1 g1)
    (ht1 : ∀ (s : Shared) (H : Hp) (C : Addr) (cl : List (Str × Addr)) (fp : List Addr), PTsD (X.blk s H scope (compEnvC scope cl C X.env) fp) z.nox ifs1 tt1)
    (he : ∀ (s : Shared) (H : Hp) (C : Addr) (cl : List (Str × Addr)) (fp : List Addr), PD (X.blk s H scope (compEnvC scope cl C X.env) fp) z.nox elt te) (hs : ∀ x, foldedSetIterable iter X.env x = pure x := by intro _; rfl)
    (hs1 : ∀ env x, foldedSetIterable iter1 env x = pure x := by intro _ _; rfl) :
    PD X z (.ListComp elt [⟨tg, iter, ifs, 0⟩, ⟨tg1, iter1, ifs1, 0⟩] scope pos) (dLc2 ti g tt ti1 g1 tt1 te (own.map (·.2)) vs1) :=
  PE.imp (pe_lc2 hc hN hi ok hv hg ht hi1 hg1 ht1 he hs hs1) fun σ H Q ⟨R, H0, M0, M, δ, QD, hO, W, S, ht, hQ⟩ => ⟨R, H0, M0, M, δ, _, hO, W, S, ht, fun xs δ1 J H1 M1 q W1 s1 S1 rep D hD =>
    lc2_run W1 S1 rep hD q fun H2 M2 va acc W2 hl hM hz r qa => by
      have W3 := W2.share hl hD hM trivial
      exact hQ _ _ _ _ _ qa (W1.trans W3) (s1.trans W3.m0) (S1.ext W1 W3) (.lst upd_same hz (r.mono (same_upd hM)))⟩
theorem psd_setLc2 {i : Nat} {y : Str} {py spos : Pos} (hc : X.calm = true) (hN : X.N.Nodup) (hy : X.N[i]? = some y) (hyl : X.env.scope.names.lookup y = some .local)
    (hsw : swapsWith (.ListComp elt [⟨tg, iter, ifs, 0⟩, ⟨tg1, iter1, ifs1, 0⟩] scope pos) (some (.Name y py)) spos.line X.env = pure true)
    (hi : PID X z tg iter ti) (ok : BlkOk X.N X.env.scope scope own) (hv : ∀ i ∈ vs1, i ∈ own.map (·.2))
    (hg : ∀ (s : Shared) (H : Hp) (C : Addr) (cl : List (Str × Addr)) (fp : List Addr), PGD (X.blk s H scope (compEnvC scope cl C X.env) fp) z.nox (own.map (·.2)) tg g)
    (ht : ∀ (s : Shared) (H : Hp) (C : Addr) (cl : List (Str × Addr)) (fp : List Addr), PTsD (X.blk s H scope (compEnvC scope cl C X.env) fp) z.nox ifs tt)
    (hi1 : ∀ (s : Shared) (H : Hp) (C : Addr) (cl : List (Str × Addr)) (fp : List Addr), PID (X.blk s H scope (compEnvC scope cl C X.env) fp) z.nox tg1 iter1 ti1)
    (hg1 : ∀ (s : Shared) (H : Hp) (C : Addr) (cl : List (Str × Addr)) (fp : List Addr), PGD (X.blk s H scope (compEnvC scope cl C X.env) fp) z.nox vs1 tg1 g1)
    (ht1 : ∀ (s : Shared) (H : Hp) (C : Addr) (cl : List (Str × Addr)) (fp : List Addr), PTsD (X.blk s H scope (compEnvC scope cl C X.env) fp) z.nox ifs1 tt1)
    (he : ∀ (s : Shared) (H : Hp) (C : Addr) (cl : List (Str × Addr)) (fp : List Addr), PD (X.blk s H scope (compEnvC scope cl C X.env) fp) z.nox elt te) (hs : ∀ x, foldedSetIterable iter X.env x = pure x := by intro _; rfl)
    (hs1 : ∀ env x, foldedSetIterable iter1 env x = pure x := by intro _ _; rfl) :
    PSD X z (.Assign [.Name y py] (.ListComp elt [⟨tg, iter, ifs, 0⟩, ⟨tg1, iter1, ifs1, 0⟩] scope pos) spos) (dAsg (dLc2 ti g tt ti1 g1 tt1 te (own.map (·.2)) vs1) (gdName i)) :=
  PS.imp (ps_setLc2 hc hN hy hyl hsw hi ok hv hg ht hi1 hg1 ht1 he hs hs1) fun D σ H ⟨R, H0, M0, Mb, M, δ, ED, hO, W, sb, S, ht, hD⟩ => ⟨R, H0, M0, M, δ, _, hO, W, S, ht, fun xs δ1 J H1 M1 q W1 s1 S1 rep L hL =>
    lc2_run W1 S1 rep hL q fun H2 M2 va acc W2 hl hM hz r qa => by
      have W3 := W2.share hl hL hM trivial
      obtain ⟨x, e, qa⟩ := qa
      cases e
      exact hD.nx _ _ _ _ qa (W1.trans W3) ((sb.trans s1).trans W3.m0) ((S1.ext W1 W3).set i (.lst upd_same hz (r.mono (same_upd hM))))⟩
end
end DL
/-! all(elt for tg in iter) with any element that the judgements carry. -/
namespace GenR
open PySem PySem.Spec PyProof.Rows L2

abbrev gEnv (X : Cx) (scope : Scope) (C : Addr) (code : Value) : Env := genEnv scope (cloFrom X.env.cells scope.names []) C code builtinsNs X.env
abbrev gblk (X : Cx) (s : Shared) (H : Hp) (env : Env) (A : Around) (fp : List Addr) : Cx :=
  { X with A := A, s_0 := s, H_0 := H, env := env, outer := X.stack, stack := env :: X.stack, ex := fp, fn := fun _ => false, calm := true, pn := [], xe := fun _ _ => False }
section
variable {X : Cx} {pins : List (Addr × Obj)} {σ : L2.St} {H : Hp} {s : Shared}
theorem gen_start {scope : Scope} {own : List (Str × Nat)} {fp : List Addr} {A : Around} {code : Value} {h' : Heap} {gs : Array GenState} {tk : Nat} {m : Str → Option Value} (I : Inv X pins σ H s) (ok : BlkOk X.N X.env.scope scope own) (hN : X.N.Nodup) (hcell : ∀ y ∈ scope.names, y.2 ≠ .cell)
    (hfp : ∀ b ∈ fp, FpOk X pins H b ∧ b < s.heap.objs.size) (hd : A.handled = none) (hfr : A.frames = some (gEnv X scope s.heap.objs.size code :: X.stack)) (hn : h'.Ns s.heap.objs.size m) (kp : ∀ b o, s.heap.get? b = some o → h'.get? b = some o) (hgs : AllBare gs) :
    Inv (gblk X s H (gEnv X scope s.heap.objs.size code) A fp) [] (wipe σ (own.map (·.2))) H { s with heap := h', gens := gs, toks := tk } := by
  have hfree : ∀ y ∈ scope.names, y.2 = .free → ∃ c, X.env.cells.lookup y.1 = some c := fun y hy e => by
    rcases ok.free y hy e with k | k
    · exact I.ok.has _ (.inl k)
    · exact I.ok.has _ (.inr k)
  have cm : ∀ {y : Str} {c : Addr}, (cloFrom X.env.cells scope.names []).lookup y = some c → X.env.cells.lookup y = some c ∧ c < s.heap.objs.size := fun {y c} e => by
    rcases cloFrom_mem (PySem.mem_of_lookup e) with hm | ⟨h1, rfl⟩
    · cases hm
    · obtain ⟨c, hc⟩ := hfree _ h1 rfl
      rw [hc]
      obtain ⟨w, z⟩ := I.cell _ _ hc
      exact ⟨rfl, z.lt⟩
  have look : ∀ {y : Str}, scope.names.lookup y = some .free → ∃ c, (cloFrom X.env.cells scope.names []).lookup y = some c ∧ X.env.cells.lookup y = some c := fun {y} hl => by
    have hy : (y, NameKind.free) ∈ scope.names := PySem.mem_of_lookup hl
    obtain ⟨c', e'⟩ := mem_lookup (cloFrom_has (cells := X.env.cells) (acc := []) hy)
    exact ⟨c', e', (cm e').1⟩
  have okB : (gblk X s H (gEnv X scope s.heap.objs.size code) A fp).Ok := by
    refine ⟨I.ok.mod, ok.kind, I.ok.glob, rfl, Nat.le_refl _, fun y z c e1 e2 => I.ok.inj y z c (cm e1).1 (cm e2).1, fun y hy => ?_, fun y c z e => (by cases z), fun _ => hd, hfr, .inr ⟨rfl, rfl⟩, fun b hb => ⟨Nat.ne_of_lt (hfp b hb).2, fun y c e z => ?_⟩, I.bs, Nat.le_trans I.ok.bsz I.sz, fun b o e hb => ?_, fun b hb z => ?_, I.stack, I.stkFree⟩
    · rcases hy with hy | hy
      · exact (hcell _ (PySem.mem_of_lookup (show scope.names.lookup y = some .cell from hy)) rfl).elim
      · obtain ⟨c, h1, _⟩ := look (show scope.names.lookup y = some .free from hy)
        exact ⟨c, h1⟩
    · exact (hfp b hb).1.2.2.2.2.1 y c (cm e).1 z
    · rcases (hfp b hb).1.2.2.2.1 with z | z
      · exact I.ok.noex b o e z
      · exact absurd (Nat.lt_of_lt_of_le (Heap.lt_size e) (Nat.le_trans I.ok.bsz z)) (Nat.lt_irrefl _)
    · rcases List.mem_cons.mp (I.stkSub b z) with z | z
      · exact (hfp b hb).1.2.1 z
      · exact (hfp b hb).1.2.2.1 z
  refine ⟨okB, rfl, hgs, Un.kept kp, ⟨m, hn, fun i y av e1 e2 e3 => ?_⟩, fun y c e => ?_, I.hok.fresh (Nat.le_refl _), fun y c e => I.freeC y c (cm e).1, fun p hp => absurd (show p ∈ ([] : List (Addr × Obj)) ++ [] from hp) (by simp), I.hok.kept kp, by rw [wipe_length]; exact I.len⟩
  · obtain ⟨e2, hne⟩ := wipe_some e2
    have hfr2 : scope.names.lookup y = some .free := by
      have no : ∀ k, scope.names.lookup y = some k → ¬ (k = .local ∨ k = .cell) := fun k e hh => by
        rcases ok.own _ (PySem.mem_of_lookup e) hh with e' | e'
        · obtain ⟨p, hp, hpy⟩ := List.mem_map.mp e'
          have e3 := ok.ix p hp
          have : p.1 = y := hpy
          rw [this] at e3
          exact hne (List.mem_map.mpr ⟨p, hp, nodup_ix hN e3 e1⟩)
        · exact e' (List.mem_of_getElem? e1)
      rcases e3 with e3 | e3 | e3
      · exact absurd (.inl rfl) (no _ e3)
      · exact absurd (.inr rfl) (no _ e3)
      · exact e3
    obtain ⟨m0, hn0, hl⟩ := I.loc
    have hvis : Vis X.env.scope y := (ok.free _ (PySem.mem_of_lookup hfr2) rfl).elim (fun k => .inr (.inl k)) (fun k => .inr (.inr k))
    obtain ⟨w, r, q⟩ := hl i y av e1 e2 hvis
    refine ⟨w, r, .inr ⟨.inr hfr2, ?_⟩⟩
    obtain ⟨c, h1, h2⟩ := look hfr2
    rcases q with ⟨k, _⟩ | ⟨_, c', e', z⟩
    · have k : X.env.scope.names.lookup y = some .local := k
      rcases ok.free _ (PySem.mem_of_lookup hfr2) rfl with k' | k' <;> rw [show X.env.scope.names.lookup y = _ from k'] at k <;> cases k
    · rw [h2] at e'; cases e'
      exact ⟨c, h1, z.keeps kp⟩
  · obtain ⟨w, z⟩ := I.cell y c (cm e).1
    exact ⟨w, z.keeps kp⟩
end

/-- while the generator sleeps nothing is touched -/
structure Slept (s s' : Shared) : Prop where
  heap : s'.heap = s.heap
  os : s'.os = s.os
  bare : AllBare s'.gens
theorem Slept.inv {X : Cx} {pins : List (Addr × Obj)} {σ : L2.St} {H : Hp} {s s' : Shared} (z : Slept s s') (I : Inv X pins σ H s) : Inv X pins σ H s' := by
  obtain ⟨h, g, d, t, o⟩ := s'
  obtain ⟨e1, e2, e3⟩ := z
  have e1 : h = s.heap := e1
  have e2 : o = s.os := e2
  subst e1 e2
  exact ⟨I.ok, I.os, e3, I.base, I.loc, I.cell, I.free, I.freeC, I.pin, I.hok, I.len⟩
theorem allBare_set {s : Shared} {g : Nat} {x : GenState} (h : AllBare s.gens) (hx : x.bare = true) : AllBare (s.setGen g x).gens := L2.allBare_setGen h hx

section
variable {Xg : Cx} {A0 : Around} {elt tg iter : Expr} {scope : Scope} {gpos : Pos} {it : Addr} {fp : List Addr} {tn : Nat → Heap → Prop} {J : It} {pins : List (Addr × Obj)} {g : TG} {te : TE} {σ : L2.St} {vs : List Nat} {QT QF : Hp → Prop}
/-- what the generator hands out -/
def Yp (Xg : Cx) (pins : List (Addr × Obj)) (σ : L2.St) (QF : Hp → Prop) : Protocol := fun n s₀ v s kap => ∃ b H, v = .bool b ∧ Inv Xg pins σ H s ∧ (b = true → ∀ s'', Slept s s'' → kap (.send .none) s'') ∧ (b = false → QF H)
def Rp (Xg : Cx) (pins : List (Addr × Obj)) (σ : L2.St) (QT : Hp → Prop) : Nat → Shared → Shared → Prop := fun _ _ s₁ => ∃ H, Inv Xg pins σ H s₁ ∧ QT H
abbrev gcode (elt tg iter : Expr) (scope : Scope) (gpos : Pos) (it : Addr) (env : Env) : Code := .compLoop (.GeneratorExp elt [⟨tg, iter, [], 0⟩] scope gpos) 0 (.ref it) .none env
theorem seg_all (hA : Xg.A = A0.over (gcode elt tg iter scope gpos it Xg.env) []) (hc : Xg.calm = true) (hco : Xg.env.scope.isCoroutine = false) (hxe : ∀ e s, ¬ Xg.xe e s)
    (T : Turn Xg.prog Xg.w Xg.K tg J fp it tn) (f2 : ∀ b ∈ fp, ∀ H : Hp, H b = none → FpOk Xg pins H b) (hg : PG Xg tg g) (he : PE Xg elt te) (hσ : wipe σ vs = σ) (W : Nat → Nat → Hp → Prop)
    (turn : ∀ i m H, W i m H → (J.stop i H ∧ QT H) ∨ (J.go i H ∧ ∃ Nx : Hp → Prop, (∀ H', Nx H' → ∃ m', m' < m ∧ W (i + 1) m' H') ∧ ∀ x H', J.yld i H x H' → g x σ H' fun σ2 H2 => wipe σ2 vs = σ ∧ te σ2 H2 fun y H3 => ∃ b, y = .bl b ∧ if b = true then Nx H3 else QF H3)) :
    ∀ (n i m : Nat) (s₀ s : Shared) (H : Hp), m < n → Inv Xg pins σ H s → tn i s.heap → (∀ b ∈ fp, H b = none) → W i m H →
      Seg (model Xg.prog Xg.w) A0 (fun n s₀ r s₁ => r = .ok .next ∧ Rp Xg pins σ QT n s₀ s₁) (Yp Xg pins σ QF) n s₀ (gcode elt tg iter scope gpos it Xg.env) ((model Xg.prog Xg.w).den (gcode elt tg iter scope gpos it Xg.env)) [] s := by
  intro n
  induction n with
  | zero => intro i m s₀ s H hm; exact absurd hm (Nat.not_lt_zero _)
  | succ n ih =>
    intro i m s₀ s H hm I st fr w
    show Seg _ A0 _ _ _ s₀ _ ((compTurn (.GeneratorExp elt [⟨tg, iter, [], 0⟩] scope gpos) 0 (.ref it) .none Xg.env).onRaise (leaving Xg.env)) [] s
    rw [compTurn_gen, Sem.onRaise_eq_wrap]
    refine seg_bind_wrap (wpAny_standAt ?_)
    rcases turn i m H w with ⟨stop, qn⟩ | ⟨go, Nx, hN, step⟩
    · refine seg_bind_wrap ?_
      rw [← hA]
      refine thn (T.done Xg rfl rfl rfl hc i pins s σ H _ I (fun b hb => f2 b hb H (fr b hb)) st stop) fun r s1 ⟨hr, I1⟩ => ?_
      subst hr
      exact seg_end (.ok .next) ⟨rfl, H, I1, qn⟩
    · refine seg_bind_wrap ?_
      rw [← hA]
      refine thn (T.item Xg rfl rfl rfl hc i pins s σ H _ I (fun b hb => f2 b hb H (fr b hb)) st go) fun r s1 ⟨u, hr, h4⟩ => ?_
      subst hr
      refine seg_bind_wrap ?_
      rw [← hA]
      refine wpAny_mono h4 (fun _ s2 ⟨x, H2, I2, r2, y2, st2, fr2⟩ => ?_) fun _ _ e => e
      have I2' := I2.pinned (fun b hb => f2 b hb H2 (fr2 b hb)) (T.obj _ _ st2)
      refine seg_bind_wrap ?_
      rw [← hA]
      refine wpAny_mono (hg.run _ s2 σ H2 x u _ I2' r2 (step x H2 y2)) (fun _ s3 ⟨σ3, H3, I3, q3⟩ => ?_) fun e s z => (hxe e s z).elim
      obtain ⟨hw3, q3⟩ := q3
      refine seg_bind_wrap (wpAny_tests_nil ?_)
      simp only [if_true]
      have hy : ∀ v, yieldOut Xg.env v = yieldValue v := fun v => by simp only [yieldOut, hco, Bool.false_eq_true, if_false]
      simp only [hy]
      rw [Sem.bind_eq_wrap', Sem.bind_eq_wrap', Sem.wrap_wrap, Sem.wrap_wrap]
      refine seg_wrap ?_
      rw [← hA]
      refine wpAny_mono (he.run _ s3 σ3 H3 _ I3 q3) (fun v s5 ⟨y, H5, I5, r5, q5⟩ => ?_) fun e s z => (hxe e s z).elim
      obtain ⟨b, rfl, q5⟩ := q5
      cases r5
      have I5' : Inv Xg pins σ H5 s5 := by
        refine (I5.unpinned).weak (by rw [← hw3, wipe_length]) fun i v e => ?_
        rw [← hw3] at e
        exact (wipe_some e).1
      have st5 : tn (i + 1) s5.heap := T.keep _ _ _ st2 fun b hb o e => (I5.pin (b, o) (List.mem_append_right _ (List.mem_append_right _ (mem_pinsAt hb e)))).1
      have fr5 : ∀ b ∈ fp, H5 b = none := fun b hb => by
        obtain ⟨o, e, d⟩ := T.obj _ _ st2 b hb
        exact (I5.pin (b, o) (List.mem_append_right _ (List.mem_append_right _ (mem_pinsAt hb e)))).2.1
      refine seg_at (seg_yield rfl rfl rfl ⟨b, H5, rfl, I5', fun hb s'' hs => ?_, fun hb => ?_⟩)
      · subst hb
        rw [if_pos rfl] at q5
        obtain ⟨m', hm', w'⟩ := hN H5 q5
        refine seg_again rfl (ih (i + 1) m' s'' s'' H5 (by omega) (hs.inv I5') (by rw [hs.heap]; exact st5) fr5 w')
      · subst hb
        rw [if_neg Bool.false_ne_true] at q5
        exact q5

/-- the end of all(..): b, at the heap H -/
def Done (Xg : Cx) (pins : List (Addr × Obj)) (σ : L2.St) (QT QF : Hp → Prop) (b : Bool) (s' : Shared) : Prop :=
  ∃ H s₁, Inv Xg pins σ H s₁ ∧ (b = true → QT H) ∧ (b = false → QF H) ∧ s'.os = s₁.os ∧ AllBare s'.gens ∧ ∀ b o, s₁.heap.get? b = some o → s'.heap.get? b = some o
theorem all_loop {A : Around} {RR : Result → Shared → Prop} {a : Addr} {gn : Nat} {go : Obj} (hh : A.handled = none) (hroom : A.depth < recursionLimit)
    (hgo : ∃ nm qn, go.cls = .type "generator" ∧ go.data = .fields #[.int gn 0, nm, qn] ∧ go.slots = #[]) (hpin : (a, go) ∈ pins)
    (hR : ∀ b s', Done Xg pins σ QT QF b s' → RR (.ok (.ret (.bool b))) s') :
    ∀ (n : Nat) (s : Shared) (gs : GenState), s.heap.IsGen a gn → s.heap.NoLimit → AllBare s.gens → s.gens[gn]? = some gs →
      (∀ s'', Slept s s'' → gs.Goes (model Xg.prog Xg.w) A.in1.in1 (fun n s₀ r s₁ => r = .ok .next ∧ Rp Xg pins σ QT n s₀ s₁) (Yp Xg pins σ QF) n (.send .none) s'') →
      codeAny (model Xg.prog Xg.w) A (.builtin "all.loop" ⟨[.ref a], []⟩) RR s := by
  intro n
  induction n with
  | zero =>
    intro s gs hg hl hb hgs hgoes
    refine codeAny_builtin F.entry_all_loop ?_
    rw [Around.under_plainId F.plain_all_loop _]
    show wpAny _ A.in1 (pyNext (.ref a) >>= _) _ _ s
    have hlt : gn + 1 ≤ s.gens.size := by
      have := (Array.getElem?_eq_some_iff.mp hgs).1
      omega
    refine wpAny_bind (GenW.wpAny_gsz hlt (wpAny_pyNext_genexpQ (P := Rp Xg pins σ QT) (Y := Yp Xg pins σ QF) (n := 0) hh hl hroom hg hgs (hgoes _ ⟨rfl, rfl, allBare_set hb rfl⟩) (fun v s₁ gs' hb' hv => ?_) (fun s₁ hp h' hk => ?_)))
    · intro hsz
      obtain ⟨b, H, rfl, I1, ht, hf⟩ := hv
      refine wpAny_bind (wpAny_holding (wpAny_truthy_bool ?_))
      refine wpAny_bind (wpAny_letGo ?_)
      cases b with
      | true => exact False.elim (ht rfl s₁ ⟨rfl, rfl, I1.bare⟩)
      | false =>
        simp only [Bool.false_eq_true, if_false]
        exact wpAny_bind (wpAny_rule (wpAny_pure (hR false _ ⟨H, s₁, I1, fun q => (by cases q), hf, rfl, allBare_set I1.bare hb', fun _ _ e => e⟩)))
    · intro hsz
      obtain ⟨H, I1, q⟩ := hp
      exact wpAny_bind (wpAny_rule (wpAny_pure (hR true _ ⟨H, s₁, I1, fun _ => q, fun q => (by cases q), rfl, allBare_set I1.bare rfl, hk⟩)))
  | succ n ih =>
    intro s gs hg hl hb hgs hgoes
    refine codeAny_builtin F.entry_all_loop ?_
    rw [Around.under_plainId F.plain_all_loop _]
    show wpAny _ A.in1 (pyNext (.ref a) >>= _) _ _ s
    have hlt : gn + 1 ≤ s.gens.size := by
      have := (Array.getElem?_eq_some_iff.mp hgs).1
      omega
    refine wpAny_bind (GenW.wpAny_gsz hlt (wpAny_pyNext_genexpQ (P := Rp Xg pins σ QT) (Y := Yp Xg pins σ QF) (n := n + 1) hh hl hroom hg hgs (hgoes _ ⟨rfl, rfl, allBare_set hb rfl⟩) (fun v s₁ gs' hb' hv => ?_) (fun s₁ hp h' hk => ?_)))
    · intro hsz
      obtain ⟨b, H, rfl, I1, ht, hf⟩ := hv
      refine wpAny_bind (wpAny_holding (wpAny_truthy_bool ?_))
      refine wpAny_bind (wpAny_letGo ?_)
      cases b with
      | true =>
        simp only [if_true]
        refine wpAny_pure ⟨plainId_quiet F.plain_all_loop _, ih (s₁.setGen gn gs') gs' ?_ I1.nolimit (allBare_set I1.bare hb') ?_ fun s'' z => ht rfl s'' ⟨z.heap, z.os, z.bare⟩⟩
        · obtain ⟨nm, qn, c1, c2, c3⟩ := hgo
          exact ⟨go, nm, qn, (I1.pin (a, go) (List.mem_append_right _ hpin)).1, c1, c2, c3⟩
        · have h1 : gn < s₁.gens.size := by
            rw [GenW.setGen_size] at hsz
            omega
          exact L2.setGen_at h1
      | false =>
        simp only [Bool.false_eq_true, if_false]
        exact wpAny_bind (wpAny_rule (wpAny_pure (hR false _ ⟨H, s₁, I1, fun q => (by cases q), hf, rfl, allBare_set I1.bare hb', fun _ _ e => e⟩)))
    · intro hsz
      obtain ⟨H, I1, q⟩ := hp
      exact wpAny_bind (wpAny_rule (wpAny_pure (hR true _ ⟨H, s₁, I1, fun _ => q, fun q => (by cases q), rfl, allBare_set I1.bare rfl, hk⟩)))
end

section
variable {X : Cx} {elt tg iter : Expr} {scope : Scope} {gpos p pos : Pos} {g : TG} {te : TE} {wi : TI} {own : List (Str × Nat)} {c P : Addr}
/-- the scope of a generator expression: nothing of it is captured by an inner one -/
structure GScope (scope : Scope) : Prop where
  co : scope.isCoroutine = false
  cell : ∀ y ∈ scope.names, y.2 ≠ .cell
  dot : scope.names.lookup (".0" : Str) = some NameKind.local
abbrev gA (X : Cx) (c : Code) : Around := X.A.in1.in1.over c []
def tAll (P : Addr) (wi : TI) (g : TG) (te : TE) (vs : List Nat) : TE := fun σ H Q => wi σ H fun J H1 => GxR.TabG H1 P ∧ ∀ H2, GxR.Tabbed P H1 H2 → ∃ W : Nat → Nat → Hp → Prop, (∃ m, W 0 m H2) ∧ ∀ i m H, W i m H →
  (J.stop i H ∧ Q (.bl true) H) ∨ (J.go i H ∧ ∃ Nx : Hp → Prop, (∀ H', Nx H' → ∃ m', m' < m ∧ W (i + 1) m' H') ∧ ∀ x H', J.yld i H x H' → g x (wipe σ vs) H' fun σ2 H2 => wipe σ2 vs = wipe σ vs ∧ te σ2 H2 fun y H3 => ∃ b, y = .bl b ∧ if b = true then Nx H3 else Q (.bl false) H3)
theorem wipe_wipe (σ : L2.St) (vs : List Nat) : wipe (wipe σ vs) vs = wipe σ vs := DL.wipe_eq .refl
theorem pe_all {k : Nat} (hr : Room (k + 1) X.A) (hcalm : X.calm = true) (hN : X.N.Nodup) (hgl : Gl X "all") (hm : X.mg "all" = none) (TB : GxR.TabB X.base X.mg c P) (hcode : X.env.code = .ref c) (S : GScope scope) (ok : BlkOk X.N X.env.scope scope own) (hi : PI X tg iter wi)
    (hg : ∀ (s : Shared) (H : Hp) (C : Addr) (cd : Value) (A : Around) (fp : List Addr), PG (gblk X s H (gEnv X scope C cd) A fp) tg g)
    (hel : ∀ (s : Shared) (H : Hp) (C : Addr) (cd : Value) (A : Around) (fp : List Addr), Room k A → PE (gblk X s H (gEnv X scope C cd) A fp) elt te)
    (hs : ∀ v, genFold iter X.env v = pure v := by intro _; rfl) (hb : bootBuiltins "all" = some (.builtin "all") := by decide +kernel)
    (he : starEach [.GeneratorExp elt [⟨tg, iter, [], 0⟩] scope gpos] X.env = (false, eval (.GeneratorExp elt [⟨tg, iter, [], 0⟩] scope gpos) X.env) :: starEach [] X.env := by rfl) :
    PE X (.Call (.Name "all" p) [.GeneratorExp elt [⟨tg, iter, [], 0⟩] scope gpos] [] pos) (tAll P wi g te (own.map (·.2))) := by
  refine ⟨fun pins s σ H Q I h => ?_⟩
  refine wpAny_Call_Name_kw (ld_blt I hgl hm hb ?_)
  refine PyProof.Rows.callWith_builtin1 ?_ he (by rfl)
  rw [he]
  show wpAny _ _ (spliced ((false, eval (.GeneratorExp elt [⟨tg, iter, [], 0⟩] scope gpos) X.env) :: backTo pos (starEach [] X.env))) _ _ s
  refine Calls.spliced_cons ?_
  have hclos : closureFor scope X.env = pure (cloFrom X.env.cells scope.names []) := closure_ok fun y hy e => by
    rcases ok.free y hy e with q | q
    · exact I.ok.has _ (.inl q)
    · exact I.ok.has _ (.inr q)
  refine wpAny_GeneratorExp_make S.co hclos S.cell S.dot ok.kind hr.depth ?_ hs
  refine thn (hi.run pins s σ H _ I h) fun xv s1 h1 => thn h1 fun itv s2 h2 => ?_
  obtain ⟨it, fp, tn, J, H1, rfl, I1, T, st1, f1, hTab, q1⟩ := h2
  obtain ⟨ps, hP, ht⟩ := id hTab
  refine ⟨I1.nolimit, ?_⟩
  have hPs : s2.heap.get? P = some { cls := .none, data := .fields ps } := I1.hok P _ hP
  have cd : PySem.W.CodeHd s2.heap c P := TB.code.keeps fun b u e => I1.bk b u e
  have cont : ∀ (code : Value) (h3 : Heap) (tk : Nat) (ps' : Array Value), Heap.ExtBut P s2.heap h3 → s2.heap.objs.size ≤ h3.objs.size → h3.get? P = some { cls := .none, data := .fields ps' } → (∃ more, ps' = ps ++ more) → TriplesOk ps'.toList →
      wpAny (model X.prog X.w) X.A (builtinsFor X.env.globals X.env.builtins) (fun bi s₄ =>
        ∀ h', h'.Ns s₄.heap.objs.size (fun y => if y = ".0" then some (Value.ref it) else none) → Heap.SameBut s₄.heap.objs.size (s₄.heap.push { cls := .type "frame", data := .dict #[] }) h' →
          wpAny (model X.prog X.w) X.A (spliced (backTo pos (starEach [] X.env))) (fun vs s => wpAny (model X.prog X.w) X.A (call (.builtin "all") (.ref h'.objs.size :: vs)) (EP X pins σ Q) X.xe s) X.xe { s₄ with
            gens := s₄.gens.push (.fresh (.compStart (.GeneratorExp elt [⟨tg, iter, [], 0⟩] scope gpos) 0 (.ref it) .none (genEnv scope (cloFrom X.env.cells scope.names []) s₄.heap.objs.size code bi X.env))),
            toks := s₄.toks + 1 + 1 + 1,
            heap := h'.push { cls := .type "generator", data := .fields #[.int s₄.gens.size 0, .str "<genexpr>" (s₄.toks + 1), .str (X.env.qual ++ "<genexpr>") (s₄.toks + 1 + 1)] } }) X.xe { s2 with heap := h3, toks := tk } := by
    intro code h3 tk ps' hx hsz hP3 hmore ht3
    obtain ⟨bm, ob, e1, e2, e3, e4, e5, e6, e7, e8⟩ := TB.bm
    refine wpAny_builtinsFor (m := X.mg) (by rw [I1.ok.glob]; exact (I1.mod.glob.keeps I1.bk).extBut hx TB.gP) e1 e2 (hx _ _ e4 (I1.bk _ _ e5)) e6 e7 e8 ?_
    intro h' hn' hs'
    refine Calls.spliced_nil ?_
    -- the state behind the table's growth
    obtain ⟨more, rfl⟩ := hmore
    have I3 : Inv X pins σ (upd H1 P (.tbl (ps ++ more))) { s2 with heap := h3, toks := tk } := GxR.inv_tab (g' := s2.gens) (d' := s2.drawn) I1 hP (fun b u hb e => hx b u hb e) hP3 I1.bare
    have hTd : GxR.Tabbed P H1 (upd H1 P (.tbl (ps ++ more))) := ⟨⟨ps ++ more, upd_same, ht3⟩, fun b hb => upd_ne hb⟩
    obtain ⟨W, ⟨m0, w0⟩, turn⟩ := q1 _ hTd
    have nP : ∀ b ∈ fp, b ≠ P := fun b hb z => by
      have := (f1 b hb).1
      rw [z, hP] at this; cases this
    have f3 : ∀ b ∈ fp, FpOk X pins (upd H1 P (.tbl (ps ++ more))) b := fun b hb => ⟨by rw [upd_ne (nP b hb)]; exact (f1 b hb).1, (f1 b hb).2⟩
    have st3 : tn 0 h3 := T.keep _ _ _ st1 fun b hb o e => hx b o (nP b hb) e
    have lt3 : ∀ b ∈ fp, b < h3.objs.size := fun b hb => by
      obtain ⟨o, e, _⟩ := T.obj _ _ st3 b hb
      exact Heap.lt_size e
    have szh : h'.objs.size = h3.objs.size + 1 := by
      have := hs'.1
      rw [Heap.size_push] at this
      exact this
    have keep' : ∀ b o, h3.get? b = some o → h'.get? b = some o := fun b o e => hs'.extBut b o (Nat.ne_of_lt (Heap.lt_size e)) (Heap.get?_push_of_some _ e)
    generalize hgob : ({ cls := .type "generator", data := .fields #[.int s2.gens.size 0, .str "<genexpr>" (tk + 1), .str (X.env.qual ++ "<genexpr>") (tk + 1 + 1)] } : Obj) = gob
    have keep5 : ∀ b o, h3.get? b = some o → (h'.push gob).get? b = some o := fun b o e => Heap.get?_push_of_some _ (keep' b o e)
    let Hc := upd H1 P (.tbl (ps ++ more))
    let s4 : Shared := { s2 with heap := h3, toks := tk }
    let env := gEnv X scope h3.objs.size code
    let Ag := gA X (gcode elt tg iter scope gpos it env)
    have hdA : Ag.handled = none := hr.hd
    have hfrA : Ag.frames = some (env :: X.stack) := by
      have hf := I.ok.frames
      have e : Ag.frames = pushEnvs [env] (pushEnvs [] X.A.frames) := rfl
      rw [e, hf]
      rfl
    have rA : Room k Ag := by
      refine ⟨hdA, ?_, ?_⟩
      · have := hr.dp
        show X.A.in1.in1.depth + frameCount (([] : List Frame).map Frame.where_) + Code.weight _ + 3 * k + 5 < recursionLimit
        have e : X.A.in1.in1.depth = X.A.depth := rfl
        have e2 : frameCount (([] : List Frame).map Frame.where_) = 0 := rfl
        have e3 : Code.weight (gcode elt tg iter scope gpos it env) = 1 := rfl
        rw [e, e2, e3]
        omega
      · have := hr.un
        show X.A.in1.in1.units + unitsOf (([] : List Frame).map Frame.where_) + Code.cUnits _ + 16 * k + 200 < cLine
        have e : X.A.in1.in1.units = X.A.units + 1 + 1 := rfl
        have e2 : unitsOf (([] : List Frame).map Frame.where_) = 0 := rfl
        have e3 : Code.cUnits (gcode elt tg iter scope gpos it env) = 3 := rfl
        rw [e, e2, e3]
        omega
    let Xg := gblk X s4 Hc env Ag fp
    have I5 : Inv Xg [] (wipe σ (own.map (·.2))) Hc { s4 with heap := h'.push gob, gens := s2.gens.push (.fresh (.compStart (.GeneratorExp elt [⟨tg, iter, [], 0⟩] scope gpos) 0 (.ref it) .none env)), toks := tk + 1 + 1 + 1 } :=
      gen_start I3 ok hN S.cell (fun b hb => ⟨f3 b hb, lt3 b hb⟩) hdA hfrA (hn'.push _) keep5 (AllBare.push I1.bare rfl)
    have ha5 : (h'.push gob).get? h'.objs.size = some gob := Heap.get?_push_size _ (by rw [← hgob]; rfl)
    have hfree : Hc h'.objs.size = none := I3.hok.fresh (show h3.objs.size ≤ h'.objs.size by omega)
    have I6 : Inv Xg [(h'.objs.size, gob)] (wipe σ (own.map (·.2))) Hc { s4 with heap := h'.push gob, gens := s2.gens.push (.fresh (.compStart (.GeneratorExp elt [⟨tg, iter, [], 0⟩] scope gpos) 0 (.ref it) .none env)), toks := tk + 1 + 1 + 1 } := by
      refine I5.pins_of fun q hq => ?_
      rw [List.mem_singleton.mp hq]
      refine ⟨ha5, hfree, ?_, ?_, fun v => by rw [← hgob]; intro z; cases z⟩
      · show h'.objs.size ≠ h3.objs.size
        omega
      · intro z
        obtain ⟨_, o, ho, _⟩ := I3.stack.mem z
        exact absurd (Heap.lt_size ho) (by show ¬ (h'.objs.size < h3.objs.size); omega)
    have cm : ∀ {y : Str} {c : Addr}, (cloFrom X.env.cells scope.names []).lookup y = some c → X.env.cells.lookup y = some c := fun {y c} e => by
      rcases cloFrom_mem (PySem.mem_of_lookup e) with hm | ⟨h1, rfl⟩
      · cases hm
      · have : ∃ c, X.env.cells.lookup y = some c := by
          rcases ok.free _ h1 rfl with q | q
          · exact I.ok.has _ (.inl q)
          · exact I.ok.has _ (.inr q)
        obtain ⟨c, hc⟩ := this
        rw [hc]; rfl
    have f6 : ∀ b ∈ fp, ∀ H : Hp, H b = none → FpOk Xg [(h'.objs.size, gob)] H b := fun b hb H hn => by
      obtain ⟨_, g1, g2, g3, g4, g5⟩ := f3 b hb
      have hl := lt3 b hb
      refine ⟨hn, Nat.ne_of_lt hl, fun z => ?_, .inl hb, fun y c e z => g4 y c (cm e) z, fun q hq => ?_⟩
      · rcases List.mem_cons.mp (I3.stkSub b z) with z | z
        · exact g1 z
        · exact g2 z
      · rw [List.mem_singleton.mp (show q ∈ [(h'.objs.size, gob)] from hq)]
        show h'.objs.size ≠ b
        intro z
        have hl' : h'.objs.size < h3.objs.size := by rw [z]; exact hl
        omega
    have hgen : (h'.push gob).IsGen h'.objs.size s2.gens.size := ⟨gob, _, _, ha5, by rw [← hgob], by rw [← hgob], by rw [← hgob]⟩
    refine call_function_tree F.kind_all F.plain_all F.entry_all (F.args_all1 _) ?_
    unfold Builtin.«all»
    refine wpAny_bind (m := oneArg "all" _) (wpAny_pure ?_)
    refine wpAny_bind (wpAny_pyIter_gen hgen ?_)
    refine wpAny_pure ⟨plainId_quiet F.plain_all_loop _, all_loop (Xg := Xg) (pins := [(h'.objs.size, gob)]) (σ := wipe σ (own.map (·.2))) (QT := Q (.bl true)) (QF := Q (.bl false)) (gn := s2.gens.size) (go := gob) hr.hd hr.depth ⟨_, _, by rw [← hgob], by rw [← hgob], by rw [← hgob]⟩ (List.mem_singleton.mpr rfl) (fun b s' hd => ?_)
      (m0 + 1) _ (.fresh (.compStart (.GeneratorExp elt [⟨tg, iter, [], 0⟩] scope gpos) 0 (.ref it) .none env)) hgen I6.nolimit I6.bare (Array.getElem?_push_size ..) fun s'' hs'' => ⟨rfl, ?_⟩⟩
    · obtain ⟨H, s₁, Ig, qt, qf, os, bare, kp⟩ := hd
      have J : Inv X pins σ H s' := I3.call' (os.trans Ig.os) (Ig.base.trans (Un.kept kp)) (Ig.hok.kept kp) bare fun b hb => by
        obtain ⟨_, g1, g2, g3, g4, g5⟩ := f3 b hb
        exact ⟨g3, g1, g4, g5⟩
      cases b with
      | true => exact ⟨.bl true, H, J, rfl, qt rfl⟩
      | false => exact ⟨.bl false, H, J, rfl, qf rfl⟩
    · have I7 := hs''.inv I6
      have st7 : tn 0 s''.heap := by rw [hs''.heap]; exact T.keep _ _ _ st3 fun b _ o e => keep5 b o e
      have loop := seg_all (Xg := Xg) (A0 := X.A.in1.in1) (pins := [(h'.objs.size, gob)]) (σ := wipe σ (own.map (·.2))) (vs := own.map (·.2)) (QT := Q (.bl true)) (QF := Q (.bl false)) (elt := elt) (tg := tg) (iter := iter) (scope := scope) (gpos := gpos) rfl rfl S.co (fun _ _ z => z) T f6
        (hg s4 Hc h3.objs.size code Ag fp) (hel s4 Hc h3.objs.size code Ag fp rA) (wipe_wipe _ _) W turn (m0 + 1) 0 m0 s'' s'' Hc (Nat.lt_succ_self _) I7 st7 (fun b hb => (f3 b hb).1) w0
      show Seg _ X.A.in1.in1 _ _ _ s'' _ ((compStart (.GeneratorExp elt [⟨tg, iter, [], 0⟩] scope gpos) 0 (.ref it) .none env).onRaise (leaving env)) [] s''
      unfold compStart
      rw [Sem.onRaise_eq_wrap]
      show Seg _ _ _ _ _ s'' _ ((ask >>= _).wrap _ _ _ _) [] s''
      refine seg_bind_wrap (wpAny_askSetting ?_)
      split
      · exact seg_again rfl loop
      · refine seg_bind_wrap (wpAny_rule ?_)
        show Seg _ _ _ _ _ s'' _ ((standAt iter.pos >>= _).wrap _ _ _ _) [] s''
        exact seg_bind_wrap (wpAny_standAt (seg_bind_wrap (T.self _ 0 s'' _ _ st7 (seg_again rfl loop))))
  cases hf : codeAmong gpos ps.toList with
  | none =>
    refine wpAny_genexprCodeX hcode (cd.code hPs ht) (cd.tab hPs) hf fun c' h' tk hx hge hlt hco' _ htab' _ => ?_
    obtain ⟨o1, us, f1', tf, fl, tg', inF, tx, tt, op, _, _, _, _, _, _, _, _, _, htr, _⟩ := hco'
    exact cont _ h' tk _ hx (Nat.le_trans hge (Nat.le_of_lt hlt)) htab'.2 ⟨_, rfl⟩ htr
  | some cv =>
    refine wpAny_genexprCode_hit hcode (cd.code hPs ht) hf ?_
    exact cont cv s2.heap s2.toks ps (Heap.ExtBut.refl _ _) (Nat.le_refl _) hPs ⟨#[], by simp⟩ ht
end
end GenR
/-! The data layer 5: all(..), a def by its promise. -/
namespace DL
open PySem PySem.Spec L2
section
variable {K : PySem.W.Frag} {T : List Addr} {R : List RowP} {H0 M0 H M H' M' : Hp}
theorem Wd.tabbed (w : Wd K T R H0 M0 H M) {P : Addr} (hP : P ∈ T) (h : GxR.Tabbed P H H') : Wd K T R H M H' M := by
  obtain ⟨ps, hp, _⟩ := w.tab P hP
  have nM : ∀ b o, M b = some o → b ≠ P := fun b o e z => by
    have := w.sub b o e
    rw [z, hp] at this
    cases this
    exact (w.cl b _ e).elim
  have nR : ∀ p ∈ R, p.r ≠ P := fun p hq z => by
    obtain ⟨k, m, q, e, _⟩ := w.row p hq
    rw [z, hp] at e
    cases e
  exact {
    m0 := Same.refl _
    sub := fun b o e => by rw [h.2 b (nM b o e)]; exact w.sub b o e
    cl := w.cl
    fr := fun b e => .inl e
    keep := fun b o e => by
      by_cases hb : b = P
      · subst hb
        rw [hp] at e; cases e
        obtain ⟨ps', e', _⟩ := h.1
        exact .inr (.inl ⟨_, _, rfl, e'⟩)
      · exact .inl (by rw [h.2 b hb]; exact e)
    tab := fun P' hP' => by
      by_cases hb : P' = P
      · rw [hb]; exact h.1
      · obtain ⟨qs, e, t⟩ := w.tab P' hP'
        exact ⟨qs, by rw [h.2 P' hb]; exact e, t⟩
    row0 := w.row
    row := fun p hq => by
      obtain ⟨k, m, q, e, sq, rr⟩ := w.row p hq
      refine ⟨k, m, q, by rw [h.2 _ (nR p hq)]; exact e, ?_, rr⟩
      rcases sq with (x | ⟨u, x⟩) | x
      · have : p.sc ≠ P := fun z => by rw [z, hp] at x; cases x
        exact .inl (.inl (by rw [h.2 _ this]; exact x))
      · have : p.sc ≠ P := fun z => by rw [z, hp] at x; cases x
        exact .inl (.inr ⟨u, by rw [h.2 _ this]; exact x⟩)
      · exact .inr x
    rowM := w.rowM }
end
section
variable {X : Cx} {z : Z} {tg iter elt : Expr} {ti : TID} {g : TGD} {te : TED} {pos p gpos : Pos} {scope : Scope} {own : List (Str × Nat)} {c P : Addr}
def allD (xs : List PyData) (δ1 : DS) (g : TGD) (te : TED) (vs : List Nat) (Q : Bool → Prop) : Prop :=
  ∃ I : Nat → Prop, I 0 ∧ (∀ (k : Nat) (x : PyData), xs[k]? = some x → I k → g x (hide δ1 vs) fun δ2 => te δ2 fun y _ => ∃ b, y = .d (.bool b) ∧ if b = true then I (k + 1) else Q false) ∧ (I xs.length → Q true)
def dAll (ti : TID) (g : TGD) (te : TED) (vs : List Nat) : TED := fun δ Q => ti δ fun xs δ1 => allD xs δ1 g te vs fun b => Q (.d (.bool b)) δ1
theorem pd_all {k : Nat} (hr : Room (k + 1) X.A) (hcalm : X.calm = true) (hN : X.N.Nodup) (hgl : Gl X "all") (hm : X.mg "all" = none) (TB : GxR.TabB X.base X.mg c P) (hT : P ∈ z.T) (hcode : X.env.code = .ref c) (S : GenR.GScope scope) (ok : BlkOk X.N X.env.scope scope own) (hi : PID X z tg iter ti)
    (hg : ∀ (s : Shared) (H : Hp) (C : Addr) (cd : Value) (A : Around) (fp : List Addr), PGD (GenR.gblk X s H (GenR.gEnv X scope C cd) A fp) z.nox (own.map (·.2)) tg g)
    (hel : ∀ (s : Shared) (H : Hp) (C : Addr) (cd : Value) (A : Around) (fp : List Addr), Room k A → PD (GenR.gblk X s H (GenR.gEnv X scope C cd) A fp) z.nox elt te)
    (hs : ∀ v, genFold iter X.env v = pure v := by intro _; rfl) (hb : bootBuiltins "all" = some (.builtin "all") := by decide +kernel)
    (he : starEach [.GeneratorExp elt [⟨tg, iter, [], 0⟩] scope gpos] X.env = (false, eval (.GeneratorExp elt [⟨tg, iter, [], 0⟩] scope gpos) X.env) :: starEach [] X.env := by rfl) :
    PD X z (.Call (.Name "all" p) [.GeneratorExp elt [⟨tg, iter, [], 0⟩] scope gpos] [] pos) (dAll ti g te (own.map (·.2))) :=
  PE.imp (GenR.pe_all (te := liftE X.K z.nox te) (g := liftG X.K z.nox (own.map (·.2)) g) hr hcalm hN hgl hm TB hcode S ok hi hg hel hs hb he) fun σ H Q ⟨R, H0, M0, M, δ, QD, hO, W, S, ht, hQ⟩ => by
    refine ⟨R, H0, M0, M, δ, _, hO, W, S, ht, fun xs δ1 J H1 M1 q W1 s1 S1 rep => ⟨W1.tab P hT, fun H2 hTd => ?_⟩⟩
    obtain ⟨I, h0, turn, fin⟩ := q
    have W2 := W1.tabbed hT hTd
    refine ⟨fun i m H => m = xs.length - i ∧ i ≤ xs.length ∧ ∃ M, Wd X.K z.T R H1 M1 H M ∧ I i, ⟨xs.length, by simp, Nat.zero_le _, M1, W2, h0⟩, ?_⟩
    rintro i m H3 ⟨rfl, hle, M3, W3, i3⟩
    by_cases hlt : i < xs.length
    · refine .inr ⟨(rep i H3 M3 W3.m0 W3.sub).1 hlt, fun H => ∃ M, Wd X.K z.T R H1 M1 H M ∧ I (i + 1), fun H' h => ⟨xs.length - (i + 1), by omega, rfl, hlt, h⟩, fun x H4 y => ?_⟩
      obtain ⟨d, M4, e, W4, rd⟩ := yield_step rep W3 W3.m0 hlt y
      have W4' := W3.trans W4
      have S4 : Slots R H4 H4 M4 (wipe σ (own.map (·.2))) (hide δ1 (own.map (·.2))) := (S1.ext W1 W4').hide _
      refine ⟨R, H4, M4, M4, hide δ1 (own.map (·.2)), d, _, W4'.refl, S4, rd, turn i d e i3, fun δ2 σ2 q2 S2 bt => ⟨wipe_eq bt, ?_⟩⟩
      refine ⟨R, H4, M4, M4, δ2, _, Out.nox, W4'.refl, S2, q2, fun y' δ5 v H5 M5 q5 W5 s5 S5 r5 => ?_⟩
      obtain ⟨b, rfl, q5⟩ := q5
      cases r5
      refine ⟨b, rfl, ?_⟩
      have W6 := W4'.trans W5
      cases b with
      | true =>
        rw [if_pos rfl] at q5 ⊢
        exact ⟨M5, W6, q5⟩
      | false =>
        rw [if_neg Bool.false_ne_true] at q5 ⊢
        exact hQ _ _ _ H5 M5 q5 (W1.trans W6) (s1.trans W6.m0) (S1.ext W1 W6) (Rp.bl false)
    · have e : i = xs.length := by omega
      subst e
      exact .inl ⟨(rep _ H3 M3 W3.m0 W3.sub).2.1 (Nat.le_refl _), hQ _ _ _ H3 M3 (fin i3) (W1.trans W3) (s1.trans W3.m0) (S1.ext W1 W3) (Rp.bl true)⟩
end

/-! ### a def -/
def startD (N : List Str) (ds : List DV) : DS := ds.map some ++ List.replicate (N.length - ds.length) none
theorem DVA.length {R : List RowP} {H M : Hp} : ∀ {vs : List V} {ds : List DV}, DVA R H M vs ds → vs.length = ds.length
  | _, _, .nil => rfl
  | _, _, .cons _ r => congrArg (· + 1) r.length
theorem DVA.get {R : List RowP} {H M : Hp} : ∀ {vs : List V} {ds : List DV} {i : Nat} {d : DV}, DVA R H M vs ds → ds[i]? = some d → ∃ v, vs[i]? = some v ∧ DVc R H M v d
  | _, _, _, _, .nil, e => by simp at e
  | _, _, 0, _, .cons h _, e => by simp at e; subst e; exact ⟨_, rfl, h⟩
  | _, _, i + 1, d, .cons _ r, e => by
    obtain ⟨v, h1, h2⟩ := DVA.get (i := i) (d := d) r (by simpa using e)
    exact ⟨v, by simpa using h1, h2⟩
theorem Slots.start {R : List RowP} {H M : Hp} {N : List Str} {vs : List V} {ds : List DV} (h : DVA R H M vs ds) (no : ds.all (fun d => !d.isOwn) = true) : Slots R H H M (start N vs) (startD N ds) := by
  have key : ∀ (i : Nat) (x : DV), (startD N ds)[i]? = some (some x) → ds[i]? = some x ∧ x.isOwn = false := fun i x e => by
    unfold startD at e
    by_cases hi : i < ds.length
    · rw [List.getElem?_append_left (by simpa using hi), List.getElem?_map] at e
      cases q : ds[i]? with
      | none => rw [q] at e; cases e
      | some y =>
        rw [q] at e
        cases e
        exact ⟨rfl, by have := List.all_eq_true.mp no x (List.mem_of_getElem? q); simpa using this⟩
    · rw [List.getElem?_append_right (by simpa using Nat.not_lt.mp hi), List.getElem?_replicate] at e
      split at e
      · cases e
      · cases e
  refine ⟨?_, fun i x e => ?_, fun i j x y v e1 _ o1 => ?_⟩
  · unfold L2.start startD
    simp [h.length]
  · obtain ⟨e1, o⟩ := key i x e
    obtain ⟨v, e2, c⟩ := h.get e1
    refine ⟨v, ?_, c, fun q => by rw [o] at q; cases q⟩
    unfold L2.start
    rw [List.getElem?_append_left (by rw [List.length_map]; exact (List.getElem?_eq_some_iff.mp e2).1), List.getElem?_map, e2]
    rfl
  · obtain ⟨_, o⟩ := key i x e1
    rw [o] at o1; cases o1
section
variable {P : Program} {w : World} {K : PySem.W.Frag} {mg : Str → Option Value} {base : Heap}
/-- the surroundings of a def's body -/
structure BodyOk (X : Cx) (z : Z) (k : Nat) : Prop where
  room : Room k X.A
  takes : Takes X (fun cls d _ H => z.E cls d H)
  own : PassesOwn (model X.prog X.w) X.A X.env X.xe
theorem BodyOk.pass {X : Cx} {z : Z} {k : Nat} (b : BodyOk X z k) : Passes (L2.CX X.prog X.w) X z.E := passes_call b.takes fun _ _ _ _ h => h
theorem fn_D {x qual : Str} {st : Stmt} {f : Addr} {fd : FuncData} {N ps : List Str} {k : Nat} {T : List Addr} {g : Gf} (F : Fun K x qual st f fd) (S : FnScope N ps (defScope st)) (len : ∀ ds QD XD, g ds QD XD → ds.length = ps.length) (t : (Ex → Prop) → TSD)
    (hbody : ∀ (cdv : Value) (A : Around) (outer : List Env) (s : Shared) (H : Hp) (E : XK) (XD : Ex → Prop),
      PySem.W.codeIn K cdv qual = true → BodyOk (cxOf (L2.CX P w) P w K mg base N qual (defScope st) f cdv A outer s H E) ⟨T, E, XD⟩ k → PSsD (cxOf (L2.CX P w) P w K mg base N qual (defScope st) f cdv A outer s H E) ⟨T, E, XD⟩ (defBody st) (t XD))
    (hmean : ∀ ds QD XD, g ds QD XD → t XD { nx := fun _ => QD .none, rt := QD } (startD N ds)) : FnOk P w K mg base (L2.CX P w) (k + 1) f fd ps (spD K T g) := by
  obtain ⟨oc, od, kV, doc, pm, an, cdv, ct, osl, rfl, lk, hcd⟩ := F.ex
  refine fn_of lk hcd S (fun vs H Q E ⟨R, M, ds, QD, XD, W, hv, no, hg, _⟩ => hv.length.trans (len ds QD XD hg)) fun A outer s H vs Q E hr ⟨R, M, ds, QD, XD, W, hv, no, hg, hQ, hE⟩ => ?_
  refine ⟨_, hbody cdv A outer s H E XD hcd ⟨hr, takes_of rfl rfl rfl rfl, passes_of rfl⟩, ?_⟩
  exact ⟨R, H, M, M, M, startD N ds, _, fun x cls d H' M' hx W' r => hE x cls d H' M' hx W' r, W, Same.refl _, Slots.start hv no, hmean ds QD XD hg,
    { nx := fun δ σ H' M' q W' _ S' => hQ _ _ H' M' q W' .non, bk := fun _ _ _ _ q => q.elim, ct := fun _ _ _ _ q => q.elim, rt := fun u v H' M' q W' r => hQ u v H' M' q W' r }⟩
end
end DL
/-! The data layer 6: operations by data. -/
namespace DL
open PySem PySem.Spec L2
theorem OpR.imp {X : Cx} {f : Value → Value → Sem Value} {r r' : R2} (h : OpR X f r) (i : ∀ x y H Q, r' x y H Q → r x y H Q) : OpR X f r' := fun pins s σ H x y v u Q I rx ry q => h pins s σ H x y v u Q I rx ry (i x y H Q q)
theorem IxR.imp {X : Cx} {r r' : R2} (h : IxR X r) (i : ∀ x y H Q, r' x y H Q → r x y H Q) : IxR X r' := fun value slice pins s σ H x y v u Q I rx ry q hs => h value slice pins s σ H x y v u Q I rx ry (i x y H Q q) hs
theorem CallR.imp {X : Cx} {f : Value} {r r' : List V → Hp → VK → Prop} (h : CallR X f r) (i : ∀ x H Q, r' x H Q → r x H Q) : CallR X f r' := fun pins s σ H xs us Q I rx q => h pins s σ H xs us Q I rx (i xs H Q q)
theorem MtR.imp {X : Cx} {id : String} {r r' : V → List V → Hp → VK → Prop} (h : MtR X id r) (i : ∀ x xs H Q, r' x xs H Q → r x xs H Q) : MtR X id r' := fun pins s σ H x xs v us Q I rx rxs q => h pins s σ H x xs v us Q I rx rxs (i x xs H Q q)

def DV.rd : DV → Option PyData
  | .d x => some x
  | .own l => some (.list l)
  | _ => none
@[simp] theorem rd_d (x : PyData) : (DV.d x).rd = some x := rfl
@[simp] theorem rd_own (l : List PyData) : (DV.own l).rd = some (.list l) := rfl
def rds : List DV → Option (List PyData)
  | [] => some []
  | x :: r => match x.rd, rds r with
    | some y, some ys => some (y :: ys)
    | _, _ => none
abbrev F2 := PyData → PyData → Option PyData
abbrev FN := List PyData → Option PyData
def g2 (f : F2) : DV → DV → (PyData → Prop) → Prop := fun x y Q => ∃ a b r, x.rd = some a ∧ y.rd = some b ∧ f a b = some r ∧ Q r
def gN (f : FN) : List DV → (PyData → Prop) → Prop := fun xs Q => ∃ as r, rds xs = some as ∧ f as = some r ∧ Q r

section
variable {X : Cx} {K : PySem.W.Frag} {T : List Addr} {R : List RowP} {H0 M0 H M : Hp}
/-- v stands for d, to be read -/
inductive Rv (H M : Hp) (v : V) : PyData → Prop
  | d {x : PyData} : Rp M v x → Rv H M v x
  | own {a : Addr} {xs : List V} {l : List PyData} : v = .ref a → H a = some (.lst xs) → xs.length ≤ sizeLine → RpA M xs l → Rv H M v (.list l)
theorem DVc.rv {v : V} {x : DV} {d : PyData} (c : DVc R H M v x) (e : x.rd = some d) : Rv H M v d := by
  cases x with
  | d y => cases e; exact .d c
  | own l => cases e; obtain ⟨a, xs, e, h, z, r⟩ := c; exact .own e h z r
  | row => cases e
  | oN l => cases e
  | oK l => cases e
theorem Rv.lst (s : Same M H) {v : V} {l : List PyData} (h : Rv H M v (.list l)) : ∃ a xs, v = .ref a ∧ H a = some (.lst xs) ∧ xs.length ≤ sizeLine ∧ RpA M xs l := by
  cases h with
  | d h => cases h with
    | lst hM z r => exact ⟨_, _, rfl, s _ _ hM, z, r⟩
  | own e h z r => exact ⟨_, _, e, h, z, r⟩
theorem Rv.tup {v : V} {l : List PyData} (h : Rv H M v (.tuple l)) : ∃ a xs, v = .ref a ∧ M a = some (.tup xs) ∧ xs.length ≤ sizeLine ∧ RpA M xs l := by
  cases h with
  | d h => cases h with
    | tup hM z r => exact ⟨_, _, rfl, hM, z, r⟩
theorem Rv.int {v : V} {i : Int} (h : Rv H M v (.int i)) : v = .int i := by
  cases h with
  | d h => exact h.int_eq
theorem Rv.bool {v : V} {i : Bool} (h : Rv H M v (.bool i)) : v = .bl i := by
  cases h with
  | d h => exact h.bool_eq
theorem Rv.str {v : V} {i : Str} (h : Rv H M v (.str i)) : v = .str i := by
  cases h with
  | d h => exact h.str_eq
theorem Rv.none {v : V} (h : Rv H M v .none) : v = .non := by
  cases h with
  | d h => exact h.none_eq
theorem Rv.dp (s : Same M H) {v : V} {d : PyData} (h : Rv H M v d) (q : d.canLay0 = true) : Dp K H v d := by
  cases h with
  | d h => exact h.dp s q
  | own e h z r => subst e; exact .lst (.of h) (RpA.dp s r (by simpa only [PyData.canLay0] using q))
theorem DVA.rds {vs : List V} {ds : List DV} (h : DVA R H M vs ds) : ∀ {as : List PyData}, rds ds = some as → vs.length = as.length ∧ ∀ (i : Nat) (a : PyData), as[i]? = some a → ∃ v, vs[i]? = some v ∧ Rv H M v a := by
  induction h with
  | nil => intro as e; simp [DL.rds] at e; subst e; exact ⟨rfl, fun i a h => by simp at h⟩
  | cons c r ih =>
    rename_i v vs x xs
    intro as e
    simp only [DL.rds] at e
    cases h1 : x.rd with
    | none => rw [h1] at e; cases e
    | some y =>
      cases h2 : DL.rds xs with
      | none => rw [h1, h2] at e; cases e
      | some ys =>
        rw [h1, h2] at e
        cases e
        obtain ⟨l, k⟩ := ih h2
        refine ⟨by simp [l], fun i a ha => ?_⟩
        cases i with
        | zero => simp at ha; subst ha; exact ⟨v, rfl, c.rv h1⟩
        | succ i => exact k i a (by simpa using ha)
theorem DVA.rds1 {vs : List V} {ds : List DV} {a : PyData} (h : DVA R H M vs ds) (e : DL.rds ds = some [a]) : ∃ v, vs = [v] ∧ Rv H M v a := by
  obtain ⟨l, k⟩ := h.rds e
  obtain ⟨v, hv, r⟩ := k 0 a rfl
  match vs, l with
  | [u], _ => simp at hv; subst hv; exact ⟨_, rfl, r⟩
theorem DVA.rds2 {vs : List V} {ds : List DV} {a b : PyData} (h : DVA R H M vs ds) (e : DL.rds ds = some [a, b]) : ∃ v u, vs = [v, u] ∧ Rv H M v a ∧ Rv H M u b := by
  obtain ⟨l, k⟩ := h.rds e
  obtain ⟨v, hv, r⟩ := k 0 a rfl
  obtain ⟨u, hu, r'⟩ := k 1 b rfl
  match vs, l with
  | [x, y], _ => simp at hv hu; subst hv hu; exact ⟨_, _, rfl, r, r'⟩
/-- an op's rule from the values' readings -/
theorem op2 {f : Value → Value → Sem Value} {r : R2} {F : F2} (ho : OpR X f r) (i : ∀ (R : List RowP) (H M : Hp) (x y : V) (a b c : PyData) (Q : VK), Wd X.K T R H M H M → Rv H M x a → Rv H M y b → F a b = some c →
    (∀ (v : V) (H' M' : Hp), Wd X.K T R H M H' M' → Rp M' v c → Q v H') → r x y H Q) : OpR X f (rOpD X.K T (g2 F)) :=
  OpR.imp ho fun x y H Q ⟨R, M, dx, dy, QD, W, cx, cy, ⟨a, b, c, e1, e2, e3, q⟩, hQ⟩ => i R H M x y a b c Q W (cx.rv e1) (cy.rv e2) e3 fun v H' M' W' rv => hQ c v H' M' q W' rv
theorem ix2 {r : R2} {F : F2} (ho : IxR X r) (i : ∀ (R : List RowP) (H M : Hp) (x y : V) (a b c : PyData) (Q : VK), Wd X.K T R H M H M → Rv H M x a → Rv H M y b → F a b = some c →
    (∀ (v : V) (H' M' : Hp), Wd X.K T R H M H' M' → Rp M' v c → Q v H') → r x y H Q) : IxR X (rOpD X.K T (g2 F)) :=
  IxR.imp ho fun x y H Q ⟨R, M, dx, dy, QD, W, cx, cy, ⟨a, b, c, e1, e2, e3, q⟩, hQ⟩ => i R H M x y a b c Q W (cx.rv e1) (cy.rv e2) e3 fun v H' M' W' rv => hQ c v H' M' q W' rv
theorem callN {f : Value} {r : List V → Hp → VK → Prop} {F : FN} (ho : CallR X f r) (i : ∀ (R : List RowP) (H M : Hp) (vs : List V) (ds : List DV) (as : List PyData) (c : PyData) (Q : VK), Wd X.K T R H M H M → DVA R H M vs ds → DL.rds ds = some as → F as = some c →
    (∀ (v : V) (H' M' : Hp), Wd X.K T R H M H' M' → Rp M' v c → Q v H') → r vs H Q) : CallR X f (rCaD X.K T (gN F)) :=
  CallR.imp ho fun vs H Q ⟨R, M, ds, QD, W, cx, ⟨as, c, e1, e2, q⟩, hQ⟩ => i R H M vs ds as c Q W cx e1 e2 fun v H' M' W' rv => hQ c v H' M' q W' rv
theorem Wd.newL (W : Wd K T R H0 M0 H M) {p : Addr} {xs : List V} {l : List PyData} (hp : H p = none) (z : l.length ≤ sizeLine) (r : RpA M xs l) : Wd K T R H M (upd H p (.lst xs)) (upd M p (.lst xs)) ∧ Rp (upd M p (.lst xs)) (.ref p) (.list l) := by
  have W2 := W.refl.alloc (o := .lst xs) hp trivial
  exact ⟨W2, .lst upd_same (by rw [r.length]; exact z) (r.mono W2.m0)⟩
theorem Wd.newT (W : Wd K T R H0 M0 H M) {p : Addr} {xs : List V} {l : List PyData} (hp : H p = none) (z : l.length ≤ sizeLine) (r : RpA M xs l) : Wd K T R H M (upd H p (.tup xs)) (upd M p (.tup xs)) ∧ Rp (upd M p (.tup xs)) (.ref p) (.tuple l) := by
  have W2 := W.refl.alloc (o := .tup xs) hp trivial
  exact ⟨W2, .tup upd_same (by rw [r.length]; exact z) (r.mono W2.m0)⟩

/-! ### + -/
def fAdd : F2
  | .int i, .int j => some (.int (i + j))
  | .str x, .str y => if x.length + y.length ≤ sizeLine then some (.str (x ++ y)) else none
  | .list x, .list y => if x.length + y.length ≤ sizeLine then some (.list (x ++ y)) else none
  | .tuple x, .tuple y => if x.length + y.length ≤ sizeLine then some (.tuple (x ++ y)) else none
  | _, _ => none
theorem RpA.nil_iff {xs : List V} {l : List PyData} (h : RpA M xs l) : xs = [] ↔ l = [] := by
  cases h <;> simp
theorem op_addD : OpR X (binaryOp .Add) (rOpD X.K T (g2 fAdd)) := by
  refine op2 (OpR.or (OpR.or op_add op_add_str) (OpR.or op_cat op_catA)) fun R H M x y a b c Q W ra rb e hQ => ?_
  match a, b, e with
  | .int i, .int j, e =>
    simp only [fAdd, Option.some.injEq] at e
    subst e
    exact .inl (.inl ⟨i, j, ra.int, rb.int, hQ _ H M W (.int _)⟩)
  | .str i, .str j, e =>
    simp only [fAdd] at e
    split at e <;> cases e
    rename_i hz
    exact .inl (.inr ⟨i, j, ra.str, rb.str, hz, hQ _ H M W (.str _)⟩)
  | .list i, .list j, e =>
    simp only [fAdd] at e
    split at e <;> cases e
    rename_i hz
    obtain ⟨p, xs, rfl, hp, z1, r1⟩ := ra.lst W.sub
    obtain ⟨q, ys, rfl, hq, z2, r2⟩ := rb.lst W.sub
    refine .inr (.inl ⟨p, q, xs, ys, rfl, rfl, hp, hq, by rw [r1.length, r2.length]; exact hz, fun t ht => ?_⟩)
    obtain ⟨W2, r⟩ := W.newL ht (by simpa using hz) (r1.append r2)
    exact hQ _ _ _ W2 r
  | .tuple i, .tuple j, e =>
    simp only [fAdd] at e
    split at e <;> cases e
    rename_i hz
    obtain ⟨p, xs, rfl, hp, z1, r1⟩ := ra.tup
    obtain ⟨q, ys, rfl, hq, z2, r2⟩ := rb.tup
    refine .inr (.inr ⟨p, q, xs, ys, rfl, rfl, .of (W.sub _ _ hp), .of (W.sub _ _ hq), by rw [r1.length, r2.length]; exact hz, fun h => ?_, fun _ h => ?_, fun _ _ t ht => ?_⟩)
    · rw [r1.nil_iff.mp h] at hQ; exact hQ _ H M W (.tup hq z2 r2)
    · rw [r2.nil_iff.mp h, List.append_nil] at hQ; exact hQ _ H M W (.tup hp z1 r1)
    · obtain ⟨W2, r⟩ := W.newT ht (by simpa using hz) (r1.append r2)
      exact hQ _ _ _ W2 r

/-! ### numbers -/
def fInt (C : Int → Int → Bool) (g : Int → Int → Int) : F2
  | .int i, .int j => if C i j = true then some (.int (g i j)) else none
  | _, _ => none
theorem op_intD {f : Value → Value → Sem Value} {Cp : Int → Int → Prop} {C : Int → Int → Bool} {g : Int → Int → Int} (ho : OpR X f (rI Cp fun i j => .int (g i j))) (hC : ∀ i j, C i j = true → Cp i j) : OpR X f (rOpD X.K T (g2 (fInt C g))) :=
  op2 ho fun R H M x y a b c Q W ra rb e hQ => by
    match a, b, e with
    | .int i, .int j, e =>
      simp only [fInt] at e
      split at e <;> cases e
      rename_i h
      exact ⟨i, j, ra.int, rb.int, hC i j h, hQ _ H M W (.int _)⟩
def fSub : F2 := fInt (fun _ _ => true) (· - ·)
def fFDiv : F2 := fInt (fun _ j => decide (0 < j ∧ j < 1073741824)) (· / ·)
def fMod : F2 := fInt (fun _ j => decide (0 < j)) (· % ·)
def fPow : F2 := fInt (fun i j => decide (0 ≤ j ∧ j ≤ 1000 ∧ i.natAbs < 1000)) fun i j => i ^ j.toNat
theorem op_subD : OpR X (binaryOp .Sub) (rOpD X.K T (g2 fSub)) :=
  op2 op_sub fun R H M x y a b c Q W ra rb e hQ => by
    match a, b, e with
    | .int i, .int j, e =>
      simp only [fSub, fInt, if_true, Option.some.injEq] at e
      subst e
      exact ⟨i, j, ra.int, rb.int, hQ _ H M W (.int _)⟩
theorem op_fdivD : OpR X (binaryOp .FloorDiv) (rOpD X.K T (g2 fFDiv)) := op_intD op_fdiv fun i j h => (by simpa using h : 0 < j ∧ j < 1073741824)
theorem op_modD : OpR X (binaryOp .Mod) (rOpD X.K T (g2 fMod)) := op_intD op_mod fun i j h => of_decide_eq_true h
theorem op_powD : OpR X (binaryOp .Pow) (rOpD X.K T (g2 fPow)) := op_intD op_pow fun i j h => by
  have := of_decide_eq_true h
  exact ⟨this.1, by omega, by have := this.2.2; exact Nat.lt_trans this (by decide)⟩
def cMul (i j : Int) : Bool := decide ((-(2 ^ 64) < i ∧ i < 2 ^ 64) ∨ (-(2 ^ 64) < j ∧ j < 2 ^ 64))
def fMul : F2
  | .int i, .int j => if cMul i j = true then some (.int (i * j)) else none
  | .list x, .int j => if -(2 ^ 63) ≤ j ∧ j < 2 ^ 63 ∧ x.length * j.toNat ≤ sizeLine then some (.list (List.replicate j.toNat x).flatten) else none
  | .tuple x, .int j => if x ≠ [] ∧ 2 ≤ j ∧ j ≤ 1000 ∧ x.length ≤ 1000 then some (.tuple (List.replicate j.toNat x).flatten) else none
  | _, _ => none
theorem RpA.rep {xs : List V} {l : List PyData} (h : RpA M xs l) : ∀ n : Nat, RpA M (List.replicate n xs).flatten (List.replicate n l).flatten
  | 0 => .nil
  | n + 1 => by
    rw [List.replicate_succ, List.replicate_succ, List.flatten_cons, List.flatten_cons]
    exact h.append (h.rep n)
theorem len_rep {α : Type} (l : List α) : ∀ n : Nat, (List.replicate n l).flatten.length = l.length * n
  | 0 => by simp
  | n + 1 => by rw [List.replicate_succ, List.flatten_cons, List.length_append, len_rep l n, Nat.mul_succ, Nat.add_comm]
theorem op_mulD : OpR X (binaryOp .Mult) (rOpD X.K T (g2 fMul)) := by
  refine op2 (OpR.or op_mul (OpR.or op_rep op_repT)) fun R H M x y a b c Q W ra rb e hQ => ?_
  match a, b, e with
  | .int i, .int j, e =>
    simp only [fMul] at e
    split at e <;> cases e
    rename_i hz
    exact .inl ⟨i, j, ra.int, rb.int, (by simpa only [cMul, decide_eq_true_eq] using hz : (-(2 ^ 64) < i ∧ i < 2 ^ 64) ∨ (-(2 ^ 64) < j ∧ j < 2 ^ 64)), hQ _ H M W (.int _)⟩
  | .list l, .int j, e =>
    simp only [fMul] at e
    split at e <;> cases e
    rename_i hz
    obtain ⟨p, xs, rfl, hp, z1, r1⟩ := ra.lst W.sub
    refine .inr (.inl ⟨p, j, xs, rfl, rb.int, hp, hz.1, hz.2.1, by rw [r1.length]; exact hz.2.2, fun t ht => ?_⟩)
    obtain ⟨W2, r⟩ := W.newL ht (by rw [len_rep]; exact hz.2.2) (r1.rep _)
    exact hQ _ _ _ W2 r
  | .tuple l, .int j, e =>
    simp only [fMul] at e
    split at e <;> cases e
    rename_i hz
    obtain ⟨p, xs, rfl, hp, z1, r1⟩ := ra.tup
    refine .inr (.inr ⟨p, j, xs, rfl, rb.int, .of (W.sub _ _ hp), fun h => hz.1 (r1.nil_iff.mp h), hz.2.1, hz.2.2.1, by rw [r1.length]; exact hz.2.2.2, fun t ht => ?_⟩)
    obtain ⟨W2, r⟩ := W.newT ht (by
      rw [len_rep]
      have h1 : j.toNat ≤ 1000 := by have := hz.2.2.1; omega
      exact Nat.le_trans (Nat.mul_le_mul hz.2.2.2 h1) (by decide)) (r1.rep _)
    exact hQ _ _ _ W2 r

/-! ### comparisons -/
def fEq : F2 := fun a b => if SeqAt.shaped a && SeqAt.shaped b then some (.bool (PyData.eqv a b)) else none
def fNe : F2 := fun a b => if SeqAt.shaped a && SeqAt.shaped b then some (.bool (!PyData.eqv a b)) else none
theorem op_eqDD (hu : X.A.units + 64 < cLine) : OpR X (compareOp .Eq) (rOpD X.K T (g2 fEq)) :=
  op2 (op_eqD hu) fun R H M x y a b c Q W ra rb e hQ => by
    simp only [fEq] at e
    split at e <;> cases e
    rename_i h
    obtain ⟨h1, h2⟩ := Bool.and_eq_true_iff.mp h
    exact ⟨a, b, ra.dp W.sub (SeqAt.canLay_of_shaped h1), rb.dp W.sub (SeqAt.canLay_of_shaped h2), h1, h2, hQ _ H M W (.bl _)⟩
theorem op_neDD (hu : X.A.units + 64 < cLine) : OpR X (compareOp .NotEq) (rOpD X.K T (g2 fNe)) :=
  op2 (op_neD hu) fun R H M x y a b c Q W ra rb e hQ => by
    simp only [fNe] at e
    split at e <;> cases e
    rename_i h
    obtain ⟨h1, h2⟩ := Bool.and_eq_true_iff.mp h
    exact ⟨a, b, ra.dp W.sub (SeqAt.canLay_of_shaped h1), rb.dp W.sub (SeqAt.canLay_of_shaped h2), h1, h2, hQ _ H M W (.bl _)⟩
/-- order of alike data -/
def rOrd (K : PySem.W.Frag) (g : PyData → PyData → Bool) : R2 := fun x y H Q => ∃ a b, Dp K H x a ∧ Dp K H y b ∧ PySem.W.alike a b = true ∧ a ≠ .none ∧ SeqAt.shaped a = true ∧ Q (.bl (g a b)) H
theorem op_ltO (hu : X.A.units + 64 < cLine) : OpR X (compareOp .Lt) (rOrd X.K fun a b => PySem.W.dataLt a b) := by
  intro pins s σ H x y v u Q I rx ry ⟨a, b, hd, he, al, hn, sd, q⟩
  obtain ⟨as, r1⟩ := Dp.reads I a x v hd rx
  obtain ⟨bs, r2⟩ := Dp.reads I b y u he ry
  exact PySem.W.lt_data r1 r2 al hn (SeqAt.room_of_shaped sd hu) ⟨.bl _, H, I, rfl, q⟩
theorem op_gtO (hu : X.A.units + 64 < cLine) : OpR X (compareOp .Gt) (rOrd X.K fun a b => PySem.W.dataLt b a) := by
  intro pins s σ H x y v u Q I rx ry ⟨a, b, hd, he, al, hn, sd, q⟩
  obtain ⟨as, r1⟩ := Dp.reads I a x v hd rx
  obtain ⟨bs, r2⟩ := Dp.reads I b y u he ry
  exact PySem.W.gt_data r1 r2 al hn (SeqAt.room_of_shaped sd hu) ⟨.bl _, H, I, rfl, q⟩
theorem op_leO (hu : X.A.units + 64 < cLine) : OpR X (compareOp .LtE) (rOrd X.K fun a b => !PySem.W.dataLt b a) := by
  intro pins s σ H x y v u Q I rx ry ⟨a, b, hd, he, al, hn, sd, q⟩
  obtain ⟨as, r1⟩ := Dp.reads I a x v hd rx
  obtain ⟨bs, r2⟩ := Dp.reads I b y u he ry
  exact PySem.W.le_data r1 r2 al hn (SeqAt.room_of_shaped sd hu) ⟨.bl _, H, I, rfl, q⟩
theorem op_geO (hu : X.A.units + 64 < cLine) : OpR X (compareOp .GtE) (rOrd X.K fun a b => !PySem.W.dataLt a b) := by
  intro pins s σ H x y v u Q I rx ry ⟨a, b, hd, he, al, hn, sd, q⟩
  obtain ⟨as, r1⟩ := Dp.reads I a x v hd rx
  obtain ⟨bs, r2⟩ := Dp.reads I b y u he ry
  exact PySem.W.ge_data r1 r2 al hn (SeqAt.room_of_shaped sd hu) ⟨.bl _, H, I, rfl, q⟩
def ordOk (a b : PyData) : Bool := PySem.W.alike a b && SeqAt.shaped a && SeqAt.shaped b && (match a with | .none => false | _ => true)
def fLt : F2
  | .int i, .int j => some (.bool (decide (i < j)))
  | a, b => if ordOk a b then some (.bool (PySem.W.dataLt a b)) else none
def fGt : F2
  | .int i, .int j => some (.bool (decide (j < i)))
  | a, b => if ordOk a b then some (.bool (PySem.W.dataLt b a)) else none
def fLe : F2
  | .int i, .int j => some (.bool (decide (i ≤ j)))
  | a, b => if ordOk a b then some (.bool (!PySem.W.dataLt b a)) else none
def fGe : F2
  | .int i, .int j => some (.bool (decide (j ≤ i)))
  | a, b => if ordOk a b then some (.bool (!PySem.W.dataLt a b)) else none
theorem ordOk_of {a b : PyData} (h : ordOk a b = true) : PySem.W.alike a b = true ∧ a ≠ .none ∧ SeqAt.shaped a = true ∧ SeqAt.shaped b = true := by
  simp only [ordOk, Bool.and_eq_true] at h
  refine ⟨h.1.1.1, fun e => by subst e; exact absurd h.2 (by simp), h.1.1.2, h.1.2⟩
theorem ord_read {W : Wd K T R H M H M} {x y : V} {a b c : PyData} {g : PyData → PyData → Bool} {Q : VK} (ra : Rv H M x a) (rb : Rv H M y b) (h : (if ordOk a b then some (PyData.bool (g a b)) else none) = some c)
    (hQ : ∀ (v : V) (H' M' : Hp), Wd K T R H M H' M' → Rp M' v c → Q v H') : rOrd K g x y H Q := by
  split at h <;> cases h
  rename_i h
  obtain ⟨al, hn, h1, h2⟩ := ordOk_of h
  exact ⟨a, b, ra.dp W.sub (SeqAt.canLay_of_shaped h1), rb.dp W.sub (SeqAt.canLay_of_shaped h2), al, hn, h1, hQ _ H M W (.bl _)⟩
theorem op_ltD (hu : X.A.units + 64 < cLine) : OpR X (compareOp .Lt) (rOpD X.K T (g2 fLt)) := by
  refine op2 (OpR.or op_lt (op_ltO hu)) fun R H M x y a b c Q W ra rb e hQ => ?_
  unfold fLt at e
  split at e
  · cases e; exact .inl ⟨_, _, ra.int, rb.int, hQ _ H M W (.bl _)⟩
  · exact .inr (ord_read (W := W) ra rb e hQ)
theorem op_gtD (hu : X.A.units + 64 < cLine) : OpR X (compareOp .Gt) (rOpD X.K T (g2 fGt)) := by
  refine op2 (OpR.or op_gt (op_gtO hu)) fun R H M x y a b c Q W ra rb e hQ => ?_
  unfold fGt at e
  split at e
  · cases e; exact .inl ⟨_, _, ra.int, rb.int, hQ _ H M W (.bl _)⟩
  · exact .inr (ord_read (W := W) ra rb e hQ)
theorem op_leD (hu : X.A.units + 64 < cLine) : OpR X (compareOp .LtE) (rOpD X.K T (g2 fLe)) := by
  refine op2 (OpR.or op_le (op_leO hu)) fun R H M x y a b c Q W ra rb e hQ => ?_
  unfold fLe at e
  split at e
  · cases e; exact .inl ⟨_, _, ra.int, rb.int, hQ _ H M W (.bl _)⟩
  · exact .inr (ord_read (W := W) ra rb e hQ)
theorem op_geD (hu : X.A.units + 64 < cLine) : OpR X (compareOp .GtE) (rOpD X.K T (g2 fGe)) := by
  refine op2 (OpR.or op_ge (op_geO hu)) fun R H M x y a b c Q W ra rb e hQ => ?_
  unfold fGe at e
  split at e
  · cases e; exact .inl ⟨_, _, ra.int, rb.int, hQ _ H M W (.bl _)⟩
  · exact .inr (ord_read (W := W) ra rb e hQ)
/-- in, not in -/
def rInT (K : PySem.W.Frag) : R2 := fun x y H Q => ∃ d ds, Dp K H x d ∧ Dp K H y (.tuple ds) ∧ SeqAt.shaped d = true ∧ SeqAt.shaped (.tuple ds) = true ∧ Q (.bl (ds.any fun z => PyData.eqv z d)) H
def rNotInT (K : PySem.W.Frag) : R2 := fun x y H Q => ∃ d ds, Dp K H x d ∧ Dp K H y (.tuple ds) ∧ SeqAt.shaped d = true ∧ SeqAt.shaped (.tuple ds) = true ∧ Q (.bl (!ds.any fun z => PyData.eqv z d)) H
theorem op_inT (hu : X.A.units + 65 < cLine) : OpR X (compareOp .In) (rInT X.K) := by
  intro pins s σ H x y v u Q I rx ry ⟨d, ds, hd, he, sd, se, q⟩
  obtain ⟨as, r1⟩ := Dp.reads I d x v hd rx
  obtain ⟨bs, r2⟩ := Dp.reads I (.tuple ds) y u he ry
  exact SeqAt.in_tuple_reads r2 r1 (SeqAt.canLay_of_shaped se) (SeqAt.canLay_of_shaped sd) (PyProof.Rows.room_in_shaped sd hu) ⟨.bl _, H, I, rfl, q⟩
theorem op_notInT (hu : X.A.units + 65 < cLine) : OpR X (compareOp .NotIn) (rNotInT X.K) := by
  intro pins s σ H x y v u Q I rx ry ⟨d, ds, hd, he, sd, se, q⟩
  obtain ⟨as, r1⟩ := Dp.reads I d x v hd rx
  obtain ⟨bs, r2⟩ := Dp.reads I (.tuple ds) y u he ry
  exact SeqAt.notIn_tuple_reads r2 r1 (SeqAt.canLay_of_shaped se) (SeqAt.canLay_of_shaped sd) (PyProof.Rows.room_in_shaped sd hu) ⟨.bl _, H, I, rfl, q⟩
def fIn : F2
  | d, .list ds => if SeqAt.shaped d && SeqAt.shaped (.list ds) then some (.bool (ds.any fun z => PyData.eqv z d)) else none
  | d, .tuple ds => if SeqAt.shaped d && SeqAt.shaped (.tuple ds) then some (.bool (ds.any fun z => PyData.eqv z d)) else none
  | _, _ => none
def fNotIn : F2
  | d, .list ds => if SeqAt.shaped d && SeqAt.shaped (.list ds) then some (.bool (!ds.any fun z => PyData.eqv z d)) else none
  | d, .tuple ds => if SeqAt.shaped d && SeqAt.shaped (.tuple ds) then some (.bool (!ds.any fun z => PyData.eqv z d)) else none
  | _, _ => none
theorem op_inDD (hu : X.A.units + 65 < cLine) : OpR X (compareOp .In) (rOpD X.K T (g2 fIn)) := by
  refine op2 (OpR.or (op_inD hu) (op_inT hu)) fun R H M x y a b c Q W ra rb e hQ => ?_
  unfold fIn at e
  split at e
  · split at e <;> cases e
    rename_i h
    obtain ⟨h1, h2⟩ := Bool.and_eq_true_iff.mp h
    exact .inl ⟨a, _, ra.dp W.sub (SeqAt.canLay_of_shaped h1), rb.dp W.sub (SeqAt.canLay_of_shaped h2), h1, h2, hQ _ H M W (.bl _)⟩
  · split at e <;> cases e
    rename_i h
    obtain ⟨h1, h2⟩ := Bool.and_eq_true_iff.mp h
    exact .inr ⟨a, _, ra.dp W.sub (SeqAt.canLay_of_shaped h1), rb.dp W.sub (SeqAt.canLay_of_shaped h2), h1, h2, hQ _ H M W (.bl _)⟩
  · cases e
theorem op_notInDD (hu : X.A.units + 65 < cLine) : OpR X (compareOp .NotIn) (rOpD X.K T (g2 fNotIn)) := by
  refine op2 (OpR.or (op_notInD hu) (op_notInT hu)) fun R H M x y a b c Q W ra rb e hQ => ?_
  unfold fNotIn at e
  split at e
  · split at e <;> cases e
    rename_i h
    obtain ⟨h1, h2⟩ := Bool.and_eq_true_iff.mp h
    exact .inl ⟨a, _, ra.dp W.sub (SeqAt.canLay_of_shaped h1), rb.dp W.sub (SeqAt.canLay_of_shaped h2), h1, h2, hQ _ H M W (.bl _)⟩
  · split at e <;> cases e
    rename_i h
    obtain ⟨h1, h2⟩ := Bool.and_eq_true_iff.mp h
    exact .inr ⟨a, _, ra.dp W.sub (SeqAt.canLay_of_shaped h1), rb.dp W.sub (SeqAt.canLay_of_shaped h2), h1, h2, hQ _ H M W (.bl _)⟩
  · cases e
/-- is, is not: None, truth values -/
def isNone : PyData → Bool
  | .none => true
  | _ => false
def fIs : F2
  | a, .none => some (.bool (isNone a))
  | .bool a, .bool b => some (.bool (decide (a = b)))
  | _, _ => none
def fIsNot : F2
  | a, .none => some (.bool (!isNone a))
  | .bool a, .bool b => some (.bool (!decide (a = b)))
  | _, _ => none
theorem Rv.isNone {v : V} {d : PyData} (h : Rv H M v d) : decide (v = .non) = isNone d := by
  cases h with
  | d h => cases h <;> simp [DL.isNone]
  | own e h z r => subst e; simp [DL.isNone]
theorem op_isD : OpR X (compareOp .Is) (rOpD X.K T (g2 fIs)) := by
  refine op2 (OpR.or op_isN op_isBl) fun R H M x y a b c Q W ra rb e hQ => ?_
  unfold fIs at e
  split at e
  · cases e
    refine .inl ⟨rb.none, ?_⟩
    rw [ra.isNone]
    exact hQ _ H M W (.bl _)
  · cases e; exact .inr ⟨_, _, ra.bool, rb.bool, hQ _ H M W (.bl _)⟩
  · cases e
theorem op_isNotD : OpR X (compareOp .IsNot) (rOpD X.K T (g2 fIsNot)) := by
  refine op2 (OpR.or op_notN op_notBl) fun R H M x y a b c Q W ra rb e hQ => ?_
  unfold fIsNot at e
  split at e
  · cases e
    refine .inl ⟨rb.none, ?_⟩
    rw [ra.isNone]
    exact hQ _ H M W (.bl _)
  · cases e; exact .inr ⟨_, _, ra.bool, rb.bool, hQ _ H M W (.bl _)⟩
  · cases e

/-! ### subscripts -/
def fIx : F2
  | .list l, .int i => atI l i
  | .tuple l, .int i => atI l i
  | .str z, .int i => if z.length ≤ sizeLine then (atI z.cps.toList i).map fun c => .str ⟨#[c]⟩ else none
  | _, _ => none
theorem RpA.atI {xs : List V} {l : List PyData} {i : Int} {d : PyData} (h : RpA M xs l) (e : L2.atI l i = some d) : ∃ v, L2.atI xs i = some v ∧ Rp M v d := by
  unfold L2.atI at e ⊢
  rw [h.length]
  cases q : ixN l.length i with
  | none => rw [q] at e; cases e
  | some j => rw [q] at e; exact h.get e
theorem ix_D : IxR X (rOpD X.K T (g2 fIx)) := by
  refine ix2 ix_seq fun R H M x y a b c Q W ra rb e hQ => ?_
  unfold fIx at e
  split at e
  · obtain ⟨p, xs, rfl, hp, z1, r1⟩ := ra.lst W.sub
    obtain ⟨v, hv, r⟩ := r1.atI e
    exact .inl ⟨p, xs, _, v, rfl, rb.int, .of hp, hv, hQ _ H M W r⟩
  · obtain ⟨p, xs, rfl, hp, z1, r1⟩ := ra.tup
    obtain ⟨v, hv, r⟩ := r1.atI e
    exact .inr (.inl ⟨p, xs, _, v, rfl, rb.int, .of (W.sub _ _ hp), hv, hQ _ H M W r⟩)
  · split at e
    · rename_i z i hz
      cases q : L2.atI z.cps.toList i with
      | none => rw [q] at e; cases e
      | some ch => rw [q] at e; cases e; exact .inr (.inr ⟨_, _, _, ra.str, rb.int, hz, q, hQ _ H M W (.str _)⟩)
    · cases e
  · cases e
end
end DL
/-! sorted(xs) of tuples, some of them empty: by the kind of keys that the model asks for first. -/
namespace DL
open PySem PySem.SeqAt PyProof.Rows PySem.W
section
variable {M : Model} {prog : Program} {w : World} {A : Around} {E : Value → Shared → Prop} {s : Shared}
def TupsF (h : Heap) : List Value → List (Option Value) → Prop
  | [], [] => True
  | v :: vs, f :: fs => (∃ a o xs n, v = .ref a ∧ h.get? a = some o ∧ o.cls = .type "tuple" ∧ o.data = .seq xs n ∧ xs[0]? = f) ∧ TupsF h vs fs
  | _, _ => False
theorem firstsF : ∀ (vs : List Value) (fs : List (Option Value)) {Q : List (Option Value) → Shared → Prop}, TupsF s.heap vs fs → Q fs s → wpAny M A (vs.mapM firstOfTuple') Q E s
  | [], [], _, _, h => by rw [List.mapM_nil]; exact wpAny_pure h
  | [], _ :: _, _, t, _ => t.elim
  | _ :: _, [], _, t, _ => t.elim
  | v :: vs, f :: fs, Q, t, h => by
    obtain ⟨⟨a, o, xs, n, rfl, ho, hc, hd, hf⟩, t⟩ := t
    rw [List.mapM_cons]
    refine wpAny_bind ?_
    rw [kas_first_eq]
    refine wpAny_bind (Looks.here (show Looks M s.heap (typeOf (.ref a)) o.cls from (Looks.ld ho).andThen .now) ?_)
    rw [hc, if_neg (by first | decide | simp)]
    refine wpAny_bind (listItems_at ho hd (wpAny_pure ?_))
    rw [hf]
    exact wpAny_bind (firstsF vs fs (Q := fun bs s' => wpAny M A (pure (f :: bs)) Q E s') t (wpAny_pure h))
theorem TupsF.looks : ∀ {vs : List Value} {fs : List (Option Value)}, TupsF s.heap vs fs → ∀ v ∈ vs, Looks M s.heap (typeOf v) (.type "tuple")
  | [], [], _, v, hv => by cases hv
  | [], _ :: _, t, _, _ => t.elim
  | _ :: _, [], t, _, _ => t.elim
  | v :: vs, f :: fs, ⟨⟨a, o, xs, n, e, ho, hc, _⟩, t⟩, u, hu => by
    rcases List.mem_cons.mp hu with rfl | hu
    · rw [e]; exact hc ▸ (Looks.ld ho).andThen .now
    · exact TupsF.looks t u hu
def kindF (fs : List (Option Value)) : SortKind := if (fs[0]?.bind id).isSome = true then general' else oneType'
theorem kindF_run {vs : List Value} {fs : List (Option Value)} {Q : SortKind → Shared → Prop} (t : TupsF s.heap vs fs) (hn : none ∈ fs) (h : Q (kindF fs) s) : wpAny M A (keyKind' vs.toArray) Q E s := by
  rw [kat_kind_eq, List.mapM_toArray, map_eq_pure_bind]
  refine wpAny_bind (wpAny_bind (firstsF vs _ t (wpAny_pure ?_)))
  have hall : ¬ (fs.toArray.all fun x => x.isSome) = true := by
    simp only [List.all_toArray, List.all_eq_true]
    intro z
    simpa using z _ hn
  rw [if_neg hall]
  have e0 : fs.toArray[0]? = fs[0]? := by simp
  rw [e0]
  unfold kindF at h
  by_cases hf : (fs[0]?.bind id).isSome = true
  · rw [if_pos hf] at h
    rw [if_pos hf]
    exact wpAny_pure h
  · rw [if_neg hf] at h
    rw [if_neg hf]
    rw [oneTypeOnly'_eq, List.mapM_toArray, map_eq_pure_bind]
    refine wpAny_bind (wpAny_bind (wpAny_bind (kas_mapM (r := Value.type "tuple") _ (fun v hv Q' hq => (t.looks v hv).here hq) (wpAny_pure ?_))))
    cases vs with
    | nil =>
      cases fs with
      | nil => cases hn
      | cons _ _ => exact t.elim
    | cons v vs =>
      have hall2 : ((List.map (fun _ => Value.type "tuple") (v :: vs)).toArray.all fun x => x == Value.type "tuple") = true := by
        simp only [List.all_toArray, List.all_map, List.all_eq_true]
        intro _ _
        exact beq_self_eq_true _
      have h0 : (List.map (fun _ => Value.type "tuple") (v :: vs)).toArray[0]? = some (Value.type "tuple") := by simp
      rw [h0]
      simp only [hall2, if_true]
      exact wpAny_pure (wpAny_pure h)
/-- the call of tuple's own __lt__, as sorting makes it -/
theorem call_tuple_ltF {Q : Value → Shared → Prop} {l b : Addr} {items items2 : Array Value} {e r : Nat → Bool} (hl : s.heap.IsTuple l items) (hb : s.heap.IsTuple b items2)
    (he : ∀ j (h1 : j < items.size) (h2 : j < items2.size), EqAt A.in1 s items[j] items2[j] (e j)) (hr : ∀ j (h1 : j < items.size) (h2 : j < items2.size), e j = false → RcLt A.in1 s items[j] items2[j] (r j))
    (h : Q (.bool (firstLt e r (decide (items.size < items2.size)) (List.range (min items.size items2.size)))) s) : wpAny (model prog w) A (call (.builtin "tuple.__lt__") [.ref l, .ref b]) Q E s := by
  obtain ⟨⟨cls, dd, data, sl⟩, ho, hc, n, hd⟩ := id hl
  obtain ⟨⟨cls2, dd2, data2, sl2⟩, ho2, hc2, n2, hd2⟩ := id hb
  simp only at hc hd hc2 hd2
  subst hc hd hc2 hd2
  exact call_meets F.slot_tuple_lt ⟨_, ho, rfl⟩ F.entry_tuple_lt (F.args_tuple_lt_2 _ _) (tuple_ltAt l b items items2 n n2 dd dd2 sl sl2 e r) ⟨ho, ho2, he, hr, h⟩
theorem oneLt_tup {xs ys : List PyData} {a b : Value} {as bs : List Addr} {Q : Bool → Shared → Prop} (ra : Reads s.heap a (.tuple xs) as) (rb : Reads s.heap b (.tuple ys) bs) (hal : alikeAll xs ys = true)
    (hu : A.units + min (PyData.tuple xs).depth (PyData.tuple ys).depth < cLine) (hq : Q (dataLt (.tuple xs) (.tuple ys)) s) : wpAny (model prog w) A (oneLt' true a b) Q E s := by
  cases ra with
  | @tuple l o vs n _ as₁ h1 h2 h3 h4 =>
    cases rb with
    | @tuple l' o' vs' n' _ bs₁ k1 k2 k3 k4 =>
      have n1 : vs.size = xs.length := by simpa using ReadsAll.length _ _ _ h4
      have n2 : vs'.size = ys.length := by simpa using ReadsAll.length _ _ _ k4
      rw [dataLt_tuple, ← firstLt_toks xs ys hal, ← n1, ← n2] at hq
      rw [oneLt'_eq]
      simp only [if_true]
      refine wpAny_bind (wpAny_cRoomFor (room_here hu) ?_)
      refine wpAny_bind (wpAny_callSpecialIfBound?_slot (T := "tuple") ⟨_, h1, h2⟩ F.slot_tuple_lt (call_tuple_ltF (e := pairEq xs ys) (r := fun j => dataLt (xs.getD j .none) (ys.getD j .none)) ⟨_, h1, h2, _, h3⟩ ⟨_, k1, k2, _, k3⟩ (fun j j1 j2 => ?_) (fun j j1 j2 hj => ?_) ?_))
      · have := eqAt_alikeAll xs ys A.in1 s vs.toList vs'.toList _ _ h4 k4 hal (room_in hu) j (by simpa using j1) (by simpa using j2)
        simpa using this
      · have := rcLt_alikeAll xs ys A.in1 s vs.toList vs'.toList _ _ h4 k4 hal (room_in hu) j (by simpa using j1) (by simpa using j2) hj
        simpa using this
      · exact wpAny_truthy_bool hq
theorem each_tupsF {h : Heap} : ∀ {vs : List Value} {ds : List PyData}, EachIs (fun v d => ∃ as, Reads h v d as) vs ds → (∀ d, d ∈ ds → ∃ xs, d = .tuple xs) → ∃ fs, TupsF h vs fs ∧ ((.tuple [] : PyData) ∈ ds → none ∈ fs)
  | _, _, .nil, _ => ⟨[], trivial, fun h => by cases h⟩
  | _, _, .cons (b := d) ⟨as, r⟩ t, ht => by
    obtain ⟨fs, h1, h2⟩ := each_tupsF t fun d hd => ht d (List.mem_cons_of_mem _ hd)
    obtain ⟨xs, rfl⟩ := ht d (List.mem_cons_self ..)
    cases r with
    | @tuple a o vs n _ _ ho hc hd hr =>
      refine ⟨vs[0]? :: fs, ⟨⟨a, o, vs, n, rfl, ho, hc, hd, rfl⟩, h1⟩, fun hm => ?_⟩
      rcases List.mem_cons.mp hm with e | hm
      · have e : xs = [] := by injection e with e; exact e.symm
        have n1 : vs.size = xs.length := by simpa using ReadsAll.length _ _ _ hr
        rw [e] at n1
        have : vs[0]? = none := Array.getElem?_eq_none (by rw [n1]; exact Nat.le_refl _)
        rw [this]
        exact List.mem_cons_self
      · exact List.mem_cons_of_mem _ (h2 hm)
/-- all are tuples, or none is a tuple or None -/
def SortableT (ds : List PyData) : Prop := (∀ d, d ∈ ds → ∃ xs, d = .tuple xs) ∨ ∀ d, d ∈ ds → d ≠ .none ∧ ∀ xs, d ≠ .tuple xs
theorem sortsAtT {vs : List Value} {ds : List PyData} (e : EachIs (fun v d => ∃ as, Reads s.heap v d as) vs ds) (hal : AllAlike ds) (hk : SortableT ds) (hu : ∀ d, d ∈ ds → A.units + d.depth < cLine) : SortsAt prog w A s (dataKind s.heap ds) vs := by
  rcases hk with ht | hn
  · by_cases hm : (.tuple [] : PyData) ∈ ds
    · have room : ∀ {d d' : PyData}, d ∈ ds → A.units + min d.depth d'.depth < cLine := fun {d d'} hd => Nat.lt_of_le_of_lt (Nat.add_le_add_left (Nat.min_le_left _ _) _) (hu d hd)
      obtain ⟨fs, t, hnone⟩ := each_tupsF e ht
      refine ⟨fun v hv => ?_, kindF fs, ?_, fun h2 E Q hq => kindF_run t (hnone hm) hq⟩
      · obtain ⟨d, hd, as, r⟩ := e.left v hv
        exact ⟨_, dataKind_some hal hd r⟩
      · intro E x y a b Q ha hb hq
        obtain ⟨d, as, hd, ra, rfl⟩ := dataKind_inv ha
        obtain ⟨d', as', hd', rb, rfl⟩ := dataKind_inv hb
        have hdd := hal d hd d' hd'
        have hroom := room (d' := d') hd
        obtain ⟨xs, rfl⟩ := ht d hd
        obtain ⟨ys, rfl⟩ := ht d' hd'
        have hq' : Q (dataLt (.tuple xs) (.tuple ys)) s := hq
        unfold kindF
        split
        · show wpAny _ _ (oneLt' false x y) _ _ _
          exact oneLt_alike (fun z => by cases z) ra rb hdd (by intro z; cases z) hroom hq'
        · rw [keyLt'_oneType]
          exact oneLt_tup ra rb (by simpa [alike] using hdd) hroom hq'
    · refine SortsAt.data e hal (.inl fun d hd => ?_) hu
      obtain ⟨xs, rfl⟩ := ht d hd
      cases xs with
      | nil => exact (hm hd).elim
      | cons x r => exact ⟨x, r, rfl⟩
  · exact SortsAt.data e hal (.inr hn) hu
theorem sorted_dataT {β : Type} {vs : List Value} {bs : List β} {enc : β → PyData} {R : Value → β → Prop} {l : Addr} {Q : Value → Shared → Prop} (hl : s.heap.IsList l vs.toArray) (e : EachIs R vs bs) (er : EachIs (fun v b => ∃ as, Reads s.heap v (enc b) as) vs bs) (hal : AllAlike (bs.map enc)) (hk : SortableT (bs.map enc)) (hL : bs.length ≤ sizeLine)
    (hu : ∀ b, b ∈ bs → A.units + 2 + (enc b).depth < cLine) (h : ∀ out, out.length = bs.length → EachIs R out (bs.mergeSort (dataLe false enc)) → Q (.ref (s.heap.objs.size + 1)) { s with heap := sortedAll s.heap vs (List.toArray out) }) :
    wpAny (model prog w) A (call (.builtin "sorted") [.ref l]) Q E s := by
  have er' : EachIs (fun v b => ∃ as, Reads (sortingHeap (copyHeap s.heap vs) (s.heap.objs.size + 1) vs) v (enc b) as) vs bs := er.mono fun _ _ ⟨as, r⟩ => ⟨as, PyProof.Rows.Reads.keeps (fun _ _ => sorting_copy_old) r⟩
  exact sorted_vals hl (sortsAtT (s := { s with heap := sortingHeap (copyHeap s.heap vs) (s.heap.objs.size + 1) vs }) (each_map (R := fun v d => ∃ as, Reads (sortingHeap (copyHeap s.heap vs) (s.heap.objs.size + 1) vs) v d as) enc er') hal hk (bound_map hu)) (by rw [e.length]; exact hL)
    (h _ (by rw [sortVals_length false rfl]; exact e.length) (sortVals_data false e er' hal))
end
end DL
/-! The data layer 7: calls of built-ins, slices, truth, isinstance, owned lists. -/
namespace DL
open PySem PySem.Spec L2
section
variable {X : Cx} {z : Z} {K : PySem.W.Frag} {T : List Addr} {R : List RowP} {H0 M0 H M : Hp} {σ : L2.St} {δ : DS}
/-! ### calls by data -/
def cLen : FN
  | [.list l] => some (.int l.length)
  | [.tuple l] => some (.int l.length)
  | [.str s] => if s.length ≤ sizeLine then some (.int s.length) else none
  | _ => none
theorem call_lenD : CallR X (.builtin "len") (rCaD X.K T (gN cLen)) := by
  refine callN call_len fun R H M vs ds as c Q W hv er e hQ => ?_
  unfold cLen at e
  split at e
  · cases e
    obtain ⟨v, rfl, r⟩ := hv.rds1 er
    obtain ⟨p, xs, rfl, hp, z1, r1⟩ := r.lst W.sub
    refine ⟨_, _, rfl, .inl ⟨xs, .of hp, rfl⟩, ?_⟩
    rw [r1.length]
    exact hQ _ H M W (.int _)
  · cases e
    obtain ⟨v, rfl, r⟩ := hv.rds1 er
    obtain ⟨p, xs, rfl, hp, z1, r1⟩ := r.tup
    refine ⟨_, _, rfl, .inr ⟨xs, .of (W.sub _ _ hp), rfl⟩, ?_⟩
    rw [r1.length]
    exact hQ _ H M W (.int _)
  · split at e <;> cases e
    rename_i hz
    obtain ⟨v, rfl, r⟩ := hv.rds1 er
    refine ⟨_, _, rfl, (show LenV X.K v H _ from ?_), hQ _ H M W (.int _)⟩
    rw [r.str]
    exact ⟨hz, rfl⟩
  · cases e
def cTuple : FN
  | [.list l] => some (.tuple l)
  | [.tuple l] => some (.tuple l)
  | _ => none
theorem call_tupleD : CallR X (.type "tuple") (rCaD X.K T (gN cTuple)) := by
  refine callN call_tuple_of fun R H M vs ds as c Q W hv er e hQ => ?_
  unfold cTuple at e
  split at e
  · cases e
    obtain ⟨v, rfl, r⟩ := hv.rds1 er
    obtain ⟨p, xs, rfl, hp, z1, r1⟩ := r.lst W.sub
    refine ⟨_, _, rfl, .inl ⟨.of hp, fun q hq => ?_⟩⟩
    obtain ⟨W2, r⟩ := W.newT hq (by rw [← r1.length]; exact z1) r1
    exact hQ _ _ _ W2 r
  · cases e
    obtain ⟨v, rfl, r⟩ := hv.rds1 er
    obtain ⟨p, xs, rfl, hp, z1, r1⟩ := r.tup
    exact ⟨_, _, rfl, .inr ⟨.of (W.sub _ _ hp), hQ _ _ _ W (.tup hp z1 r1)⟩⟩
  · cases e
def cList : FN
  | [.list l] => some (.list l)
  | [.tuple l] => some (.list l)
  | _ => none
theorem call_listD : CallR X (.type "list") (rCaD X.K T (gN cList)) := by
  refine callN call_list_of fun R H M vs ds as c Q W hv er e hQ => ?_
  unfold cList at e
  split at e
  · cases e
    obtain ⟨v, rfl, r⟩ := hv.rds1 er
    obtain ⟨p, xs, rfl, hp, z1, r1⟩ := r.lst W.sub
    refine ⟨_, _, rfl, .inl (.of hp), fun q hq => ?_⟩
    obtain ⟨W2, r⟩ := W.newL hq (by rw [← r1.length]; exact z1) r1
    exact hQ _ _ _ W2 r
  · cases e
    obtain ⟨v, rfl, r⟩ := hv.rds1 er
    obtain ⟨p, xs, rfl, hp, z1, r1⟩ := r.tup
    refine ⟨_, _, rfl, .inr (.of (W.sub _ _ hp)), fun q hq => ?_⟩
    obtain ⟨W2, r⟩ := W.newL hq (by rw [← r1.length]; exact z1) r1
    exact hQ _ _ _ W2 r
  · cases e
/-- sorted(list), items alike -/
def isTupC : PyData → Bool
  | .tuple _ => true
  | _ => false
def notTupN : PyData → Bool
  | .tuple _ => false
  | .none => false
  | _ => true
def sortOk (l : List PyData) : Bool := l.all (fun x => l.all fun y => PySem.W.alike x y) && (l.all isTupC || l.all notTupN) && SeqAt.shaped (.list l)
def sortD (l : List PyData) : List PyData := l.mergeSort (PySem.W.dataLe false id)
def cSorted : FN
  | [.list l] => if sortOk l then some (.list (sortD l)) else none
  | _ => none
theorem sortOk_of {l : List PyData} (h : sortOk l = true) : PySem.W.AllAlike l ∧ SortableT l ∧ SeqAt.shaped (.list l) = true := by
  simp only [sortOk, Bool.and_eq_true, Bool.or_eq_true] at h
  refine ⟨fun d hd d' hd' => List.all_eq_true.mp (List.all_eq_true.mp h.1.1 d hd) d' hd', ?_, h.2⟩
  rcases h.1.2 with q | q
  · refine .inl fun d hd => ?_
    have := List.all_eq_true.mp q d hd
    match d, this with
    | .tuple r, _ => exact ⟨r, rfl⟩
  · refine .inr fun d hd => ?_
    have := List.all_eq_true.mp q d hd
    refine ⟨fun e => by subst e; simp [notTupN] at this, fun xs e => by subst e; simp [notTupN] at this⟩
theorem each_of {M : Hp} : ∀ {xs : List V} {l : List PyData} {us : List Value}, RpA M xs l → Vals xs us → PySem.W.EachIs (fun (u : Value) (d : PyData) => ∃ x, RelV x u ∧ Rp M x d) us l
  | _, _, _, .nil, .nil => .nil
  | _, _, _, .cons h t, .cons r q => .cons ⟨_, r, h⟩ (each_of t q)
theorem each_back {M : Hp} : ∀ {l : List PyData} {us : List Value}, PySem.W.EachIs (fun (u : Value) (d : PyData) => ∃ x, RelV x u ∧ Rp M x d) us l → ∃ xs, Vals xs us ∧ RpA M xs l
  | _, _, .nil => ⟨[], .nil, .nil⟩
  | _, _, .cons ⟨x, r, h⟩ t => by
    obtain ⟨xs, r2, h2⟩ := each_back t
    exact ⟨x :: xs, .cons r r2, .cons h h2⟩
theorem each_and {α β : Type} {P Q : α → β → Prop} : ∀ {us : List α} {l : List β}, PySem.W.EachIs P us l → PySem.W.EachIs Q us l → PySem.W.EachIs (fun u d => P u d ∧ Q u d) us l
  | _, _, .nil, .nil => .nil
  | _, _, .cons h t, .cons h' t' => .cons ⟨h, h'⟩ (each_and t t')
theorem depth_mem : ∀ {l : List PyData} {d : PyData}, d ∈ l → d.depth ≤ PyData.depthAll l
  | x :: r, d, h => by
    rw [PyData.depthAll]
    rcases List.mem_cons.mp h with rfl | h
    · exact Nat.le_max_left _ _
    · exact Nat.le_trans (depth_mem h) (Nat.le_max_right _ _)
theorem dps_each {pins : List (Addr × Obj)} {s : Shared} (I : Inv X pins σ H s) : ∀ {l : List PyData} {xs : List V} {us : List Value}, DpAll X.K H xs l → Vals xs us → PySem.W.EachIs (fun (u : Value) (d : PyData) => ∃ as, Reads s.heap u d as) us l
  | _, _, _, .nil, .nil => .nil
  | _, _, _, .cons h t, .cons r q => .cons (Dp.reads I _ _ _ h r) (dps_each I t q)
/-- the sorted list of what stands for l -/
def rSortD (K : PySem.W.Frag) : List V → Hp → VK → Prop := fun vs H Q => ∃ (a : Addr) (xs : List V) (M : Hp) (l : List PyData), vs = [.ref a] ∧ H a = some (.lst xs) ∧ Same M H ∧ RpA M xs l ∧ sortOk l = true ∧
  ∀ (p : Addr) (ys : List V), H p = none → RpA M ys (sortD l) → Q (.ref p) (upd H p (.lst ys))
theorem call_sortD (hu : X.A.units + 100 < cLine) : CallR X (.builtin "sorted") (rSortD X.K) := by
  intro pins s σ H vs us Q I r h
  obtain ⟨a, xs, M, l, rfl, ha, sM, rp, hok, q⟩ := h
  rw [Vals.ref1 r]
  obtain ⟨its, rv, hl, hz⟩ := I.list (.of ha)
  obtain ⟨al, so, sh⟩ := sortOk_of hok
  have hlay : PyData.canLayAll0 l = true := by
    have := SeqAt.canLay_of_shaped sh
    simpa only [PyData.canLay0] using this
  have hdp := SeqAt.depth_of_shaped sh
  have er : PySem.W.EachIs (fun (u : Value) (d : PyData) => ∃ as, Reads s.heap u d as) its l := by
    exact dps_each I (RpA.dp sM rp hlay) rv
  refine sorted_dataT (enc := id) (bs := l) (vs := its) (R := fun (u : Value) (d : PyData) => ∃ x, RelV x u ∧ Rp M x d) hl.isList (each_of rp rv) er (by simpa using al) (by simpa using so) (by rw [← rp.length]; exact hz) (fun b hb => ?_) fun out hlen eo => ?_
  · have h1 := depth_mem hb
    have h2 : PyData.depth (.list l) = PyData.depthAll l + 1 := by rw [PyData.depth]
    show X.A.units + 2 + b.depth < cLine
    omega
  · obtain ⟨ys, rv2, rp2⟩ := each_back eo
    obtain ⟨ep, he'⟩ := PyProof.Rows.sortedAll_at s.heap its out.toArray
    refine ⟨.ref _, upd H (s.heap.objs.size + 1) (.lst ys), I.laid (t' := s.toks) (fun _ _ => PyProof.Rows.sortedAll_old) (Nat.le_succ _) ⟨?_, out, ep, rv2, he'⟩, rfl, q _ ys (I.hok.fresh (Nat.le_succ _)) rp2⟩
    rw [rp2.length, List.length_mergeSort, ← rp.length]
    exact hz
theorem call_sortedD (hu : X.A.units + 100 < cLine) : CallR X (.builtin "sorted") (rCaD X.K T (gN cSorted)) := by
  refine callN (call_sortD hu) fun R H M vs ds as c Q W hv er e hQ => ?_
  unfold cSorted at e
  split at e
  · split at e <;> cases e
    rename_i hok
    obtain ⟨v, rfl, r⟩ := hv.rds1 er
    obtain ⟨p, xs, rfl, hp, z1, r1⟩ := r.lst W.sub
    refine ⟨_, xs, M, _, rfl, hp, W.sub, r1, hok, fun q ys hq ry => ?_⟩
    obtain ⟨W2, r⟩ := W.newL hq (by unfold sortD; rw [List.length_mergeSort, ← r1.length]; exact z1) ry
    exact hQ _ _ _ W2 r
  · cases e
def intsOf : List PyData → Option (List Int)
  | [] => some []
  | .int i :: r => (intsOf r).map (i :: ·)
  | _ => none
theorem intsOf_eq : ∀ {l : List PyData} {ns : List Int}, intsOf l = some ns → l = ns.map .int
  | [], ns, h => by simp only [intsOf, Option.some.injEq] at h; subst h; rfl
  | .int i :: r, ns, h => by
    simp only [intsOf] at h
    cases q : intsOf r with
    | none => rw [q] at h; cases h
    | some ms => rw [q] at h; cases h; rw [intsOf_eq q]; rfl
  | .none :: r, ns, h => by simp [intsOf] at h
  | .bool _ :: r, ns, h => by simp [intsOf] at h
  | .str _ :: r, ns, h => by simp [intsOf] at h
  | .list _ :: r, ns, h => by simp [intsOf] at h
  | .tuple _ :: r, ns, h => by simp [intsOf] at h
  | .dict _ :: r, ns, h => by simp [intsOf] at h
@[simp] theorem intsOf_map (ns : List Int) : intsOf (ns.map .int) = some ns := by
  induction ns with
  | nil => rfl
  | cons n r ih => simp [intsOf, ih]
def cSum : FN
  | [.list l] => (intsOf l).map fun ns => .int ns.sum
  | [.tuple l] => none
  | _ => none
theorem call_sumD (hc : X.calm = true) : CallR X (.builtin "sum") (rCaD X.K T (gN cSum)) := by
  refine callN (cr_sum hc) fun R H M vs ds as c Q W hv er e hQ => ?_
  unfold cSum at e
  split at e
  · rename_i l
    cases q : intsOf l with
    | none => rw [q] at e; cases e
    | some ns =>
      rw [q] at e; cases e
      have := intsOf_eq q
      subst this
      obtain ⟨v, rfl, r⟩ := hv.rds1 er
      obtain ⟨p, xs, rfl, hp, z1, r1⟩ := r.lst W.sub
      have := r1.ints
      subst this
      exact ⟨_, ns, rfl, .of hp, hQ _ _ _ W (.int _)⟩
  · cases e
  · cases e
def maxI : List Int → Option Int
  | [] => none
  | x :: r => some (r.foldl max x)
def minI : List Int → Option Int
  | [] => none
  | x :: r => some (r.foldl min x)
theorem foldl_max {r : List Int} : ∀ {x : Int}, (r.foldl max x ∈ x :: r) ∧ ∀ y ∈ x :: r, y ≤ r.foldl max x := by
  induction r with
  | nil => intro x; simp
  | cons z r ih =>
    intro x
    obtain ⟨h1, h2⟩ := ih (x := max x z)
    refine ⟨?_, fun y hy => ?_⟩
    · simp only [List.foldl_cons, List.mem_cons] at h1 ⊢
      rcases h1 with h1 | h1
      · have : max x z = x ∨ max x z = z := by omega
        rcases this with q | q
        · exact .inl (h1.trans q)
        · exact .inr (.inl (h1.trans q))
      · exact .inr (.inr h1)
    · have h3 := h2 (max x z) List.mem_cons_self
      simp only [List.foldl_cons, List.mem_cons] at hy ⊢
      rcases hy with rfl | rfl | hy
      · omega
      · omega
      · exact h2 y (List.mem_cons_of_mem _ hy)
theorem foldl_min {r : List Int} : ∀ {x : Int}, (r.foldl min x ∈ x :: r) ∧ ∀ y ∈ x :: r, r.foldl min x ≤ y := by
  induction r with
  | nil => intro x; simp
  | cons z r ih =>
    intro x
    obtain ⟨h1, h2⟩ := ih (x := min x z)
    refine ⟨?_, fun y hy => ?_⟩
    · simp only [List.foldl_cons, List.mem_cons] at h1 ⊢
      rcases h1 with h1 | h1
      · have : min x z = x ∨ min x z = z := by omega
        rcases this with q | q
        · exact .inl (h1.trans q)
        · exact .inr (.inl (h1.trans q))
      · exact .inr (.inr h1)
    · have h3 := h2 (min x z) List.mem_cons_self
      simp only [List.foldl_cons, List.mem_cons] at hy ⊢
      rcases hy with rfl | rfl | hy
      · omega
      · omega
      · exact h2 y (List.mem_cons_of_mem _ hy)
def cMax : FN
  | [.list l] => ((intsOf l).bind maxI).map .int
  | _ => none
def cMin : FN
  | [.list l] => ((intsOf l).bind minI).map .int
  | _ => none
theorem call_maxD (hc : X.calm = true) : CallR X (.builtin "max") (rCaD X.K T (gN cMax)) := by
  refine callN (cr_max hc) fun R H M vs ds as c Q W hv er e hQ => ?_
  unfold cMax at e
  split at e
  · rename_i l
    cases q : intsOf l with
    | none => rw [q] at e; cases e
    | some ns =>
      rw [q] at e
      have := intsOf_eq q
      subst this
      obtain ⟨v, rfl, r⟩ := hv.rds1 er
      obtain ⟨p, xs, rfl, hp, z1, r1⟩ := r.lst W.sub
      have := r1.ints
      subst this
      match ns, e with
      | x :: r, e =>
        simp only [maxI, Option.bind_some, Option.map_some, Option.some.injEq] at e
        subst e
        refine ⟨_, x :: r, rfl, .of hp, by simp, fun m hm hy => ?_⟩
        obtain ⟨h1, h2⟩ := foldl_max (r := r) (x := x)
        have e1 : m = r.foldl max x := Int.le_antisymm (h2 m hm) (hy _ h1)
        rw [e1]
        exact hQ _ _ _ W (.int _)
  · cases e
theorem call_minD (hc : X.calm = true) : CallR X (.builtin "min") (rCaD X.K T (gN cMin)) := by
  refine callN (cr_min hc) fun R H M vs ds as c Q W hv er e hQ => ?_
  unfold cMin at e
  split at e
  · rename_i l
    cases q : intsOf l with
    | none => rw [q] at e; cases e
    | some ns =>
      rw [q] at e
      have := intsOf_eq q
      subst this
      obtain ⟨v, rfl, r⟩ := hv.rds1 er
      obtain ⟨p, xs, rfl, hp, z1, r1⟩ := r.lst W.sub
      have := r1.ints
      subst this
      match ns, e with
      | x :: r, e =>
        simp only [minI, Option.bind_some, Option.map_some, Option.some.injEq] at e
        subst e
        refine ⟨_, x :: r, rfl, .of hp, by simp, fun m hm hy => ?_⟩
        obtain ⟨h1, h2⟩ := foldl_min (r := r) (x := x)
        have e1 : m = r.foldl min x := Int.le_antisymm (hy _ h1) (h2 m hm)
        rw [e1]
        exact hQ _ _ _ W (.int _)
  · cases e
def cInt : FN
  | [.int i] => some (.int i)
  | [.bool b] => some (.int (if b then 1 else 0))
  | _ => none
theorem call_intD : CallR X (.type "int") (rCaD X.K T (gN cInt)) := by
  refine callN call_int1 fun R H M vs ds as c Q W hv er e hQ => ?_
  unfold cInt at e
  split at e
  · cases e
    obtain ⟨v, rfl, r⟩ := hv.rds1 er
    exact .inl ⟨_, by rw [r.int], hQ _ _ _ W (.int _)⟩
  · cases e
    obtain ⟨v, rfl, r⟩ := hv.rds1 er
    exact .inr ⟨_, by rw [r.bool], hQ _ _ _ W (.int _)⟩
  · cases e
def cStr : FN
  | [.int i] => if i.natAbs.log2 < 1920 then some (.str (toString i)) else none
  | _ => none
theorem call_strD : CallR X (.type "str") (rCaD X.K T (gN cStr)) := by
  refine callN call_str_int fun R H M vs ds as c Q W hv er e hQ => ?_
  unfold cStr at e
  split at e
  · split at e <;> cases e
    rename_i h
    obtain ⟨v, rfl, r⟩ := hv.rds1 er
    exact ⟨_, by rw [r.int], h, hQ _ _ _ W (.str _)⟩
  · cases e

/-! ### truth -/
def truD : PyData → Option Bool
  | .none => some false
  | .bool b => some b
  | .int i => some (i != 0)
  | .list l => some (!l.isEmpty)
  | .tuple l => some (!l.isEmpty)
  | .str s => if s.length ≤ sizeLine then some ((s.length : Int) != 0) else none
  | .dict _ => none
theorem RpA.isEmpty {xs : List V} {l : List PyData} (h : RpA M xs l) : xs.isEmpty = l.isEmpty := by cases h <;> rfl
theorem Rv.tru (W : Wd K T R H M H M) {v : V} {d : PyData} {k : Bool} (r : Rv H M v d) (e : truD d = some k) : TruV K v H k := by
  unfold truD at e
  split at e
  · cases e; rw [r.none]; rfl
  · cases e; rw [r.bool]; rfl
  · cases e; rw [r.int]; rfl
  · cases e
    obtain ⟨p, xs, rfl, hp, z1, r1⟩ := r.lst W.sub
    exact .inl ⟨xs, .of hp, by rw [r1.isEmpty]⟩
  · cases e
    obtain ⟨p, xs, rfl, hp, z1, r1⟩ := r.tup
    exact .inr (.inl ⟨xs, .of (W.sub _ _ hp), by rw [r1.isEmpty]⟩)
  · split at e <;> cases e
    rename_i h
    rw [r.str]; exact ⟨h, rfl⟩
  · cases e
def dTru (te : TED) : TTD := fun δ Q => te δ fun e δ' => ∃ x d k, cont δ' e = some x ∧ x.rd = some d ∧ truD d = some k ∧ Q k δ'
theorem ptd_tru {a : Expr} {te : TED} (h : PD X z a te) (he : ∀ whole, isTrue a X.env whole = (do let v ← whole; standAt a.pos; holding [v] (truthy v)) := by intro _; rfl) : PTD X z a (dTru te) :=
  PT.imp (pt_truth h he) fun σ H Q ⟨R, H0, M0, M, δ, QD, hO, W, S, ht, hQ⟩ => ⟨R, H0, M0, M, δ, _, hO, W, S, ht, fun e δ' v H' M' q W' s' S' r => by
    obtain ⟨x, d, k, c, rd, tr, q⟩ := q
    exact ⟨k, ((r.cont S' c).rv rd).tru W'.refl tr, hQ _ _ H' M' q W' s' S'⟩⟩

/-! ### slices -/
abbrev TOD := DS → (Option Int → DS → Prop) → Prop
def liftO (K : PySem.W.Frag) (z : Z) (t : TOD) : TO := fun σ H Q => ∃ (R : List RowP) (H0 M0 M : Hp) (δ : DS) (QD : Option Int → DS → Prop), Out K z R H0 M0 ∧ Wd K z.T R H0 M0 H M ∧ Slots R H0 H M σ δ ∧ t δ QD ∧
  ∀ (o : Option Int) (δ' : DS) (H' M' : Hp), QD o δ' → Wd K z.T R H0 M0 H' M' → Same M M' → Slots R H0 H' M' σ δ' → Q o H'
abbrev POD (X : Cx) (z : Z) (e : Option Expr) (t : TOD) : Prop := PO X e (liftO X.K z t)
theorem PO.imp {X : Cx} {e : Option Expr} {t t' : TO} (h : PO X e t) (i : ∀ σ H Q, t' σ H Q → t σ H Q) : PO X e t' := ⟨fun pins s σ H Q I q => h.run pins s σ H Q I (i σ H Q q)⟩
def dNoPart : TOD := fun δ Q => Q none δ
def dPart (t : TED) : TOD := fun δ Q => t δ fun e δ' => ∃ i, e = .d (.int i) ∧ Q (some i) δ'
theorem pod_none : POD X z none dNoPart := PO.imp po_none fun σ H Q ⟨R, H0, M0, M, δ, QD, hO, W, S, ht, hQ⟩ => hQ _ _ H M ht W (Same.refl _) S
theorem pod_some {e : Expr} {t : TED} (h : PD X z e t) : POD X z (some e) (dPart t) := PO.imp (po_some h) fun σ H Q ⟨R, H0, M0, M, δ, QD, hO, W, S, ht, hQ⟩ => ⟨R, H0, M0, M, δ, _, hO, W, S, ht, fun e δ' v H' M' q W' s' S' r => by
  obtain ⟨i, rfl, q⟩ := q
  exact ⟨i, r.int_eq, hQ _ _ H' M' q W' s' S'⟩⟩
def cutL {α : Type} (l : List α) (lo hi : Option Int) : List α := (l.drop (HT.sIx l.length 0 lo)).take (HT.sIx l.length l.length hi - HT.sIx l.length 0 lo)
theorem cutL_le {α : Type} (l : List α) (lo hi : Option Int) : (cutL l lo hi).length ≤ l.length := by
  unfold cutL
  rw [List.length_take, List.length_drop]
  omega
theorem RpA.cut {xs : List V} {l : List PyData} (h : RpA M xs l) (lo hi : Option Int) : RpA M (cutV xs lo hi) (cutL l lo hi) := by
  unfold cutV cutL
  rw [h.length]
  exact (h.drop _).take _
def fCut (d : PyData) (lo hi : Option Int) : Option PyData := match d with
  | .list l => some (.list (cutL l lo hi))
  | .tuple l => some (.tuple (cutL l lo hi))
  | .str s => if s.length ≤ sizeLine then some (.str (cutS s lo hi)) else none
  | _ => none
def dCut (te : TED) (tl th : TOD) : TED := fun δ Q => te δ fun e δ1 => tl δ1 fun lo δ2 => th δ2 fun hi δ3 => ∃ x d u, cont δ3 e = some x ∧ x.rd = some d ∧ fCut d lo hi = some u ∧ Q (.d u) δ3
theorem whole_cut {l : List PyData} {lo hi : Option Int} (h : HT.sIx l.length 0 lo = 0 ∧ HT.sIx l.length l.length hi = l.length) : cutL l lo hi = l := by
  unfold cutL
  rw [h.1, h.2]
  simp
theorem pd_slice {a : Expr} {lo hi : Option Expr} {te : TED} {tl th : TOD} {p2 pos : Pos} (h : PD X z a te) (hl : POD X z lo tl) (hh : POD X z hi th) : PD X z (.Subscript a (.Slice lo hi none p2) pos) (dCut te tl th) :=
  PE.imp (pe_slice (SlR.or (SlR.or sl_list sl_tupA) sl_str) h hl hh) fun σ H Q ⟨R, H0, M0, M, δ, QD, hO, W, S, ht, hQ⟩ => by
    refine ⟨R, H0, M0, M, δ, _, hO, W, S, ht, fun e δ1 v H1 M1 q1 W1 s1 S1 r1 => ?_⟩
    refine ⟨R, H0, M0, M1, δ1, _, hO, W1, S1, q1, fun o2 δ2 H2 M2 q2 W2 s2 S2 => ?_⟩
    refine ⟨R, H0, M0, M2, δ2, _, hO, W2, S2, q2, fun o3 δ3 H3 M3 q3 W3 s3 S3 => ?_⟩
    obtain ⟨x, d, u, c, rd, f, q⟩ := q3
    have rv := (((r1.mono (s2.trans s3))).cont S3 c).rv rd
    have Wr := W3.refl
    have fin : ∀ (v : V) (H' M' : Hp), Wd X.K z.T R H3 M3 H' M' → Rp M' v u → Q v H' := fun v H' M' W' r => hQ _ _ v H' M' q (W3.trans W') (((s1.trans s2).trans s3).trans W'.m0) (S3.ext W3 W') r
    unfold fCut at f
    split at f
    · cases f
      obtain ⟨p, xs, rfl, hp, z1, rr⟩ := rv.lst Wr.sub
      refine .inl (.inl ⟨p, xs, rfl, .of hp, fun t ht => ?_⟩)
      obtain ⟨W4, r⟩ := Wr.newL ht (Nat.le_trans (cutL_le _ _ _) (by rw [← rr.length]; exact z1)) (rr.cut o2 o3)
      exact fin _ _ _ W4 r
    · cases f
      obtain ⟨p, xs, rfl, hp, z1, rr⟩ := rv.tup
      refine .inl (.inr ⟨p, xs, rfl, .of (Wr.sub _ _ hp), fun hw => ?_, fun _ t ht => ?_⟩)
      · rw [rr.length] at hw
        rw [whole_cut hw] at fin
        exact fin _ _ _ Wr (.tup hp z1 rr)
      · obtain ⟨W4, r⟩ := Wr.newT ht (Nat.le_trans (cutL_le _ _ _) (by rw [← rr.length]; exact z1)) (rr.cut o2 o3)
        exact fin _ _ _ W4 r
    · split at f <;> cases f
      rename_i hz
      exact .inr ⟨_, rv.str, hz, fin _ _ _ Wr (.str _)⟩
    · cases f
end
end DL
/-! The data layer 8: isinstance, owned lists, list(range). -/
namespace DL
open PySem PySem.Spec L2
section
variable {X : Cx} {z : Z} {K : PySem.W.Frag} {T : List Addr} {R : List RowP} {H0 M0 H M : Hp} {σ : L2.St} {δ : DS} {pos : Pos}
/-! ### isinstance -/
def tyN : PyData → String
  | .none => "NoneType"
  | .bool _ => "bool"
  | .int _ => "int"
  | .str _ => "str"
  | .list _ => "list"
  | .tuple _ => "tuple"
  | .dict _ => "dict"
inductive TN | int | bool | str | list | tuple
def TN.n : TN → String
  | .int => "int"
  | .bool => "bool"
  | .str => "str"
  | .list => "list"
  | .tuple => "tuple"
def isT : PyData → TN → Bool
  | .bool _, .bool => true
  | .bool _, .int => true
  | .int _, .int => true
  | .str _, .str => true
  | .list _, .list => true
  | .tuple _, .tuple => true
  | _, _ => false
theorem kit_isT (d : PyData) (n : TN) : kitB (tyN d) n.n = some (isT d n) := by
  cases d <;> cases n <;> first | rfl | (simp only [tyN, TN.n, isT]; decide +kernel)
theorem kit_rv {pins : List (Addr × Obj)} {s : Shared} {x : V} {u : Value} {d : PyData} (I : Inv X pins σ H s) (rx : RelV x u) (sM : Same M H) (r : Rv H M x d) : ∃ P : Heap → Prop, PySem.W.KitX X.K u (.type (tyN d)) P ∧ P s.heap ∧ u ≠ .builtin "__main__.__loader__#opaque" := by
  cases r with
  | own e h z r => subst e; exact kit_of I rx (.base (.lst h))
  | d r => cases r with
    | non => exact kit_of I rx (.base .non)
    | bl b => exact kit_of I rx (.base (.bl b))
    | int i => exact kit_of I rx (.base (.int i))
    | str y => exact kit_of I rx (.base (.str y))
    | tup h z r => exact kit_of I rx (.base (.tup (sM _ _ h)))
    | lst h z r => exact kit_of I rx (.base (.lst (sM _ _ h)))
    | @dN a o es D h dd k1 k2 r =>
      cases (show u = Value.ref a from rx)
      exact ⟨_, PySem.W.kitx_dict, ⟨o, (DNo.heap I (sM _ _ h)).1, dd.ex.1⟩, fun z => nomatch z⟩
def rIs1 (K : PySem.W.Frag) (n : TN) : List V → Hp → VK → Prop := fun xs H Q => ∃ (M : Hp) (x : V) (d : PyData), xs = [x, .ty n.n] ∧ Same M H ∧ Rv H M x d ∧ Q (.bl (isT d n)) H
def rIs2 (K : PySem.W.Frag) (n m : TN) : List V → Hp → VK → Prop := fun xs H Q => ∃ (M : Hp) (x : V) (d : PyData) (tp : Addr), xs = [x, .ref tp] ∧ H tp = some (.tup [.ty n.n, .ty m.n]) ∧ Same M H ∧ Rv H M x d ∧ Q (.bl (isT d n || isT d m)) H
theorem call_is1 {n : TN} : CallR X (.builtin "isinstance") (rIs1 X.K n) := by
  intro pins s σ H xs us Q I r h
  obtain ⟨M, x, d, rfl, sM, rv, q⟩ := h
  obtain ⟨u1, u2, rfl, r1, r2⟩ := vals2 r
  cases (show u2 = Value.type n.n from r2)
  obtain ⟨P, Z, p, hx⟩ := kit_rv I r1 sM rv
  exact PySem.W.kia_one Z I.kIn p (kit_ty (kit_isT d n)) hx fun tk => ⟨.bl _, H, I.tok tk, rfl, q⟩
theorem call_is2 {n m : TN} : CallR X (.builtin "isinstance") (rIs2 X.K n m) := by
  intro pins s σ H xs us Q I r h
  obtain ⟨M, x, d, tp, rfl, hT, sM, rv, q⟩ := h
  obtain ⟨u1, u2, rfl, r1, r2⟩ := vals2 r
  cases (show u2 = Value.ref tp from r2)
  obtain ⟨P, Z, p, hx⟩ := kit_rv I r1 sM rv
  obtain ⟨_, its, rvv, o, h1, h2, n', h3⟩ := (show ObjOk X.prog X.w H s.heap tp (.tup [.ty n.n, .ty m.n]) from I.hok tp _ hT)
  have e3 := ClsV.all (cs := [.ty n.n, .ty m.n]) (us := [.type n.n, .type m.n]) (.cons (.ty _) (.cons (.ty _) .nil)) rvv
  subst e3
  obtain ⟨oc, od, dt, sl⟩ := o
  simp only at h2 h3
  subst h2 h3
  have ka : PySem.W.kitAny X.K (.type (tyN d)) [.type n.n, .type m.n] = some (isT d n || isT d m) := by
    refine kitAny_cons (kit_ty (kit_isT d n)) (fun h => ?_) (fun h => by rw [h]; rfl)
    rw [h, Bool.false_or]
    exact kitAny_cons (kit_ty (kit_isT d m)) (fun h => by rw [h]; rfl) (fun h => h)
  exact PySem.W.kia_tup Z I.kIn p h1 ka hx fun tk => ⟨.bl _, H, I.tok tk, rfl, q⟩
def dIs1 (n : TN) (te : TED) : TED := fun δ Q => te δ fun e δ' => ∃ x d, cont δ' e = some x ∧ x.rd = some d ∧ Q (.d (.bool (isT d n))) δ'
def dIs2 (n m : TN) (te : TED) : TED := fun δ Q => te δ fun e δ' => ∃ x d, cont δ' e = some x ∧ x.rd = some d ∧ Q (.d (.bool (isT d n || isT d m))) δ'
theorem pd_is1 {a : Expr} {te : TED} {y : Str} {p q : Pos} (n : TN) (hg : Gl X "isinstance") (hm : X.mg "isinstance" = none) (h : PD X z a te) (hgy : Gl X y) (hmy : X.mg y = none) (hvy : bootBuiltins y = some (.type n.n)) (hn : y ≠ "__name__" := by decide) (hd : (y == ("__debug__" : Str)) = false := by decide)
    (hb : bootBuiltins "isinstance" = some (.builtin "isinstance") := by decide +kernel)
    (he : starEach [a, .Name y q] X.env = (false, eval a X.env) :: starEach [.Name y q] X.env := by rfl) (hpl : (backTo pos (starEach [.Name y q] X.env)).any (·.1) = false := by rfl)
    (hs2 : starEach [.Name y q] X.env = (false, eval (.Name y q) X.env) :: starEach [] X.env := by rfl) :
    PD X z (.Call (.Name "isinstance" p) [a, .Name y q] [] pos) (dIs1 n te) :=
  PE.imp (pe_callB (call_is1 (n := n)) hg hm hb (pa_cons h (pa_cons (pe_bltn (v := .ty n.n) hgy hmy hvy rfl hn hd) pa_nil hs2) he) (by decide) (by decide) he hpl) fun σ H Q ⟨R, H0, M0, M, δ, QD, hO, W, S, ht, hQ⟩ => by
    refine ⟨R, H0, M0, M, δ, _, hO, W, S, ht, fun e δ' v H' M' q W' s' S' r => ?_⟩
    obtain ⟨x, d, c, rd, q⟩ := q
    exact ⟨M', v, d, rfl, W'.sub, (r.cont S' c).rv rd, hQ _ _ _ H' M' q W' s' S' (Rp.bl _)⟩
theorem pd_is2 {a : Expr} {te : TED} {y y2 : Str} {p q q2 tp : Pos} {kk : Nat} (n m : TN) (hg : Gl X "isinstance") (hm : X.mg "isinstance" = none) (h : PD X z a te) (hgy : Gl X y) (hmy : X.mg y = none) (hvy : bootBuiltins y = some (.type n.n)) (hgz : Gl X y2) (hmz : X.mg y2 = none) (hvz : bootBuiltins y2 = some (.type m.n))
    (hn : y ≠ "__name__" := by decide) (hd : (y == ("__debug__" : Str)) = false := by decide) (hn2 : y2 ≠ "__name__" := by decide) (hd2 : (y2 == ("__debug__" : Str)) = false := by decide) (hb : bootBuiltins "isinstance" = some (.builtin "isinstance") := by decide +kernel)
    (he : starEach [a, .Tuple [.Name y q, .Name y2 q2] kk tp] X.env = (false, eval a X.env) :: starEach [.Tuple [.Name y q, .Name y2 q2] kk tp] X.env := by rfl) (hpl : (backTo pos (starEach [.Tuple [.Name y q, .Name y2 q2] kk tp] X.env)).any (·.1) = false := by rfl)
    (hs2 : starEach [.Tuple [.Name y q, .Name y2 q2] kk tp] X.env = (false, eval (.Tuple [.Name y q, .Name y2 q2] kk tp) X.env) :: starEach [] X.env := by rfl)
    (hs3 : starEach [.Name y q, .Name y2 q2] X.env = (false, eval (.Name y q) X.env) :: starEach [.Name y2 q2] X.env := by rfl) (hs4 : starEach [.Name y2 q2] X.env = (false, eval (.Name y2 q2) X.env) :: starEach [] X.env := by rfl) :
    PD X z (.Call (.Name "isinstance" p) [a, .Tuple [.Name y q, .Name y2 q2] kk tp] [] pos) (dIs2 n m te) :=
  PE.imp (pe_callB (call_is2 (n := n) (m := m)) hg hm hb (pa_cons h (pa_cons (pe_tup (pa_cons (pe_bltn (v := .ty n.n) hgy hmy hvy rfl hn hd) (pa_cons (pe_bltn (v := .ty m.n) hgz hmz hvz rfl hn2 hd2) pa_nil hs4) hs3)) pa_nil hs2) he) (by decide) (by decide) he hpl) fun σ H Q ⟨R, H0, M0, M, δ, QD, hO, W, S, ht, hQ⟩ => by
    refine ⟨R, H0, M0, M, δ, _, hO, W, S, ht, fun e δ' v H' M' q W' s' S' r => ?_⟩
    obtain ⟨x, d, c, rd, q⟩ := q
    refine ⟨(by show 2 ≤ sizeLine; decide), fun t ht => ?_⟩
    have W2 := W'.refl.lay (o := .tup [.ty n.n, .ty m.n]) ht
    have S2 := S'.ext W' W2
    exact ⟨M', v, d, t, rfl, upd_same, W2.sub, (r.cont S2 c).rv rd, hQ _ _ _ _ M' q (W'.trans W2) s' S2 (Rp.bl _)⟩

/-! ### owned things, written -/
theorem Slots.write {i : Nat} {a : Addr} {x y : DV} {o' : HO} (S : Slots R H0 H M σ δ) (e : δ[i]? = some (some x)) (hx : x.isOwn = true) (hσ : σ[i]? = some (some (.ref a))) (hy : y.isOwn = true) (c : DVc R (upd H a o') M (.ref a) y) : Slots R H0 (upd H a o') M σ (δ.set i (some y)) where
  len := by simpa using S.len
  at_ := fun j w ew => by
    by_cases hj : i = j
    · subst hj
      have hi : i < δ.length := (List.getElem?_eq_some_iff.mp e).1
      rw [List.getElem?_set_self hi] at ew
      cases ew
      obtain ⟨v, e1, _, o⟩ := S.at_ i x e
      rw [hσ] at e1; cases e1
      exact ⟨_, hσ, c, fun _ => o hx⟩
    · rw [List.getElem?_set_ne hj] at ew
      obtain ⟨v, e1, cw, o⟩ := S.at_ j w ew
      refine ⟨v, e1, cw.mono (Same.refl _) (fun ow b eb => ?_), o⟩
      by_cases hb : b = a
      · subst hb
        subst eb
        exact absurd (S.sep i j x w _ e ew hx ow hσ e1) hj
      · exact upd_ne hb
  sep := fun j k p q v e1 e2 o1 o2 e3 e4 => by
    have key : ∀ (j : Nat) (p : DV), (δ.set i (some y))[j]? = some (some p) → p.isOwn = true → ∃ p', δ[j]? = some (some p') ∧ p'.isOwn = true := fun j p e1 o1 => by
      by_cases hj : i = j
      · subst hj; exact ⟨x, e, hx⟩
      · rw [List.getElem?_set_ne hj] at e1; exact ⟨p, e1, o1⟩
    obtain ⟨p', d1, u1⟩ := key j p e1 o1
    obtain ⟨q', d2, u2⟩ := key k q e2 o2
    exact S.sep j k p' q' v d1 d2 u1 u2 e3 e4
theorem Slots.own_lst {i : Nat} {l : List PyData} (S : Slots R H0 H M σ δ) (e : δ[i]? = some (some (.own l))) : ∃ a xs, σ[i]? = some (some (.ref a)) ∧ H a = some (.lst xs) ∧ xs.length ≤ sizeLine ∧ RpA M xs l ∧ H0 a = none ∧ M a = none := by
  obtain ⟨v, e1, ⟨a, xs, rfl, h, z, r⟩, o⟩ := S.at_ i _ e
  obtain ⟨a', ea, n, hM⟩ := o rfl
  cases ea
  exact ⟨a, xs, e1, h, z, r, n, hM⟩
theorem own_put {i : Nat} {a : Addr} {xs ys : List V} {l l' : List PyData} (W : Wd K T R H0 M0 H M) (S : Slots R H0 H M σ δ) (e : δ[i]? = some (some (.own l))) (hσ : σ[i]? = some (some (.ref a))) (h : H a = some (.lst xs)) (n : H0 a = none) (hM : M a = none) (z : ys.length ≤ sizeLine) (r : RpA M ys l') :
    Wd K T R H0 M0 (upd H a (.lst ys)) M ∧ Slots R H0 (upd H a (.lst ys)) M σ (δ.set i (some (.own l'))) :=
  ⟨W.write h n hM (fun ps q => by cases q), S.write e rfl hσ rfl ⟨a, ys, rfl, upd_same, z, r⟩⟩

theorem ixN_fits {n : Nat} {i : Int} {j : Nat} (h : ixN n i = some j) (z : n ≤ sizeLine) : -(2 ^ 63) ≤ i ∧ i < 2 ^ 63 ∧ seqIndex? i n = some j ∧ j < n := by
  obtain ⟨h1, h2, h3, h4⟩ := ixN_seq h
  have := line63
  exact ⟨by omega, by omega, h1, h2⟩
def dAppend (i : Nat) (te : TED) : TSD := fun E δ => (∃ l0, look δ i = some (.own l0)) ∧ te δ fun e δ' => ∃ l x, look δ' i = some (.own l) ∧ e = .d x ∧ l.length < sizeLine ∧ E.nx (δ'.set i (some (.own (l ++ [x]))))
theorem psd_append {i : Nat} {o a : Expr} {te : TED} {ap cp : Pos} (ho : PE X o (tVar i)) (h : PD X z a te)
    (hbase : attributeBase o "append" X.env (eval o X.env) = eval o X.env := by rfl)
    (hfew : ((backTo cp (starEach [a] X.env)).all (fun x => !x.1) && (backToKw cp (keywordEach [] X.env)).all (fun x => x.1.isSome) && decide ([a].length + ([] : List Keyword).length + (if ([] : List Keyword).isEmpty then 0 else 1) < 30)) = true := by rfl)
    (hline : (ap.endLine == cp.line) = true := by rfl) (hs : starEach [a] X.env = (false, eval a X.env) :: starEach [] X.env := by rfl)
    (hplain : (backTo cp (starEach [] X.env)).any (·.1) = false := by rfl) (hw : swapsWith (.Call (.Attribute o "append" ap) [a] [] cp) none pos.line X.env = pure false := by rfl) :
    PSD X z (.Expr (.Call (.Attribute o "append" ap) [a] [] cp) pos) (dAppend i te) :=
  PS.imp (ps_expr (pe_bm PySem.F.plainAttrs_list PySem.F.slot_list_append PySem.F.type_list_append mt_append ho (pa_cons h pa_nil hs) hbase hfew hline hs hplain) hw) fun D σ H ⟨R, H0, M0, Mb, M, δ, ED, hO, W, sb, S, ⟨⟨l0, hl0⟩, ht⟩, hD⟩ => by
    obtain ⟨p, xs0, hσ, hp0, _, _, _, _⟩ := S.own_lst (look_some hl0)
    refine ⟨.ref p, hσ, .inl ⟨rfl, xs0, .of hp0⟩, R, H0, M0, M, δ, _, hO, W, S, ht, fun e δ' v H' M' q W' s' S' r => ?_⟩
    obtain ⟨l, x, hl, rfl, hz, q⟩ := q
    obtain ⟨p', xs, hσ', hp, hz', rp, n, hM⟩ := S'.own_lst (look_some hl)
    rw [hσ] at hσ'; cases hσ'
    refine ⟨p, xs, v, rfl, rfl, hp, by rw [rp.length]; exact hz, ?_⟩
    obtain ⟨W2, S2⟩ := own_put (ys := xs ++ [v]) (l' := l ++ [x]) W' S' (look_some hl) hσ hp n hM (by rw [List.length_append, rp.length]; exact hz) (rp.append (.one r))
    exact hD.nx _ σ _ M' q W2 (sb.trans s') S2
def dExtend (i : Nat) (te : TED) : TSD := fun E δ => (∃ l0, look δ i = some (.own l0)) ∧ te δ fun e δ' => ∃ l x, look δ' i = some (.own l) ∧ e = .d (.list x) ∧ l.length + x.length ≤ sizeLine ∧ E.nx (δ'.set i (some (.own (l ++ x))))
theorem psd_extend {i : Nat} {o a : Expr} {te : TED} {ap cp : Pos} (ho : PE X o (tVar i)) (h : PD X z a te)
    (hbase : attributeBase o "extend" X.env (eval o X.env) = eval o X.env := by rfl)
    (hfew : ((backTo cp (starEach [a] X.env)).all (fun x => !x.1) && (backToKw cp (keywordEach [] X.env)).all (fun x => x.1.isSome) && decide ([a].length + ([] : List Keyword).length + (if ([] : List Keyword).isEmpty then 0 else 1) < 30)) = true := by rfl)
    (hline : (ap.endLine == cp.line) = true := by rfl) (hs : starEach [a] X.env = (false, eval a X.env) :: starEach [] X.env := by rfl)
    (hplain : (backTo cp (starEach [] X.env)).any (·.1) = false := by rfl) (hw : swapsWith (.Call (.Attribute o "extend" ap) [a] [] cp) none pos.line X.env = pure false := by rfl) :
    PSD X z (.Expr (.Call (.Attribute o "extend" ap) [a] [] cp) pos) (dExtend i te) :=
  PS.imp (ps_expr (pe_bm PySem.F.plainAttrs_list PySem.F.slot_list_extend PySem.F.type_list_extend mt_extend ho (pa_cons h pa_nil hs) hbase hfew hline hs hplain) hw) fun D σ H ⟨R, H0, M0, Mb, M, δ, ED, hO, W, sb, S, ⟨⟨l0, hl0⟩, ht⟩, hD⟩ => by
    obtain ⟨p, xs0, hσ, hp0, _, _, _, _⟩ := S.own_lst (look_some hl0)
    refine ⟨.ref p, hσ, .inl ⟨rfl, xs0, .of hp0⟩, R, H0, M0, M, δ, _, hO, W, S, ht, fun e δ' v H' M' q W' s' S' r => ?_⟩
    obtain ⟨l, x, hl, rfl, hz, q⟩ := q
    obtain ⟨p', xs, hσ', hp, hz', rp, n, hM⟩ := S'.own_lst (look_some hl)
    rw [hσ] at hσ'; cases hσ'
    obtain ⟨b, ys, rfl, hb, z2, r2⟩ := (Rv.d r).lst W'.sub
    refine ⟨p, b, xs, ys, rfl, rfl, hp, hb, by rw [rp.length, r2.length]; exact hz, ?_⟩
    obtain ⟨W2, S2⟩ := own_put (ys := xs ++ ys) (l' := l ++ x) W' S' (look_some hl) hσ hp n hM (by rw [List.length_append, rp.length, r2.length]; exact hz) (rp.append r2)
    exact hD.nx _ σ _ M' q W2 (sb.trans s') S2
/-- xs.pop(e) -/
def dPopAt (i : Nat) (te : TED) : TED := fun δ Q => (∃ l0, look δ i = some (.own l0)) ∧ te δ fun e δ' => ∃ l k j x, look δ' i = some (.own l) ∧ e = .d (.int k) ∧ ixN l.length k = some j ∧ l[j]? = some x ∧ Q (.d x) (δ'.set i (some (.own (l.eraseIdx j))))
theorem pd_popAt {i : Nat} {o a : Expr} {te : TED} {ap cp : Pos} (ho : PE X o (tVar i)) (h : PD X z a te)
    (hbase : attributeBase o "pop" X.env (eval o X.env) = eval o X.env := by rfl)
    (hfew : ((backTo cp (starEach [a] X.env)).all (fun x => !x.1) && (backToKw cp (keywordEach [] X.env)).all (fun x => x.1.isSome) && decide ([a].length + ([] : List Keyword).length + (if ([] : List Keyword).isEmpty then 0 else 1) < 30)) = true := by rfl)
    (hline : (ap.endLine == cp.line) = true := by rfl) (hs : starEach [a] X.env = (false, eval a X.env) :: starEach [] X.env := by rfl)
    (hplain : (backTo cp (starEach [] X.env)).any (·.1) = false := by rfl) :
    PD X z (.Call (.Attribute o "pop" ap) [a] [] cp) (dPopAt i te) :=
  PE.imp (pe_bm PySem.F.plainAttrs_list PySem.F.slot_list_pop PySem.F.type_list_pop mt_popAt ho (pa_cons h pa_nil hs) hbase hfew hline hs hplain) fun σ H Q ⟨R, H0, M0, M, δ, QD, hO, W, S, ⟨⟨l0, hl0⟩, ht⟩, hQ⟩ => by
    obtain ⟨p, xs0, hσ, hp0, _, _, _, _⟩ := S.own_lst (look_some hl0)
    refine ⟨.ref p, hσ, .inl ⟨rfl, xs0, .of hp0⟩, R, H0, M0, M, δ, _, hO, W, S, ht, fun e δ' v H' M' q W' s' S' r => ?_⟩
    obtain ⟨l, k, j, x, hl, rfl, hj, hx, q⟩ := q
    obtain ⟨p', xs, hσ', hp, hz', rp, n, hM⟩ := S'.own_lst (look_some hl)
    rw [hσ] at hσ'; cases hσ'
    rw [← rp.length] at hj
    obtain ⟨f1, f2, f3, f4⟩ := ixN_fits hj hz'
    obtain ⟨y, hy, ry⟩ := rp.get hx
    refine ⟨p, xs, k, j, y, rfl, by rw [r.int_eq], hp, f1, f2, f3, hy, ?_⟩
    obtain ⟨W2, S2⟩ := own_put (ys := xs.eraseIdx j) (l' := l.eraseIdx j) W' S' (look_some hl) hσ hp n hM (Nat.le_trans (by rw [List.length_eraseIdx]; split <;> omega) hz') (rp.eraseIdx j)
    exact hQ _ _ y _ M' q W2 s' S2 ry
/-- xs.pop() -/
def dPop (i : Nat) : TED := fun δ Q => ∃ l x, look δ i = some (.own l) ∧ l[l.length - 1]? = some x ∧ Q (.d x) (δ.set i (some (.own l.dropLast)))
theorem RpA.dropLast {xs : List V} {l : List PyData} (h : RpA M xs l) : RpA M xs.dropLast l.dropLast := by
  rw [List.dropLast_eq_take, List.dropLast_eq_take, h.length]
  exact h.take _
theorem pd_pop {i : Nat} {o : Expr} {ap cp : Pos} (ho : PE X o (tVar i)) (hbase : attributeBase o "pop" X.env (eval o X.env) = eval o X.env := by rfl) (hline : (ap.endLine == cp.line) = true := by rfl) :
    PD X z (.Call (.Attribute o "pop" ap) [] [] cp) (dPop i) :=
  PE.imp (pe_bm0 PySem.F.plainAttrs_list PySem.F.slot_list_pop PySem.F.type_list_pop mt_pop ho hbase hline) fun σ H Q ⟨R, H0, M0, M, δ, QD, hO, W, S, ht, hQ⟩ => by
    obtain ⟨l, x, hl, hx, q⟩ := ht
    obtain ⟨p, xs, hσ, hp, hz, rp, n, hM⟩ := S.own_lst (look_some hl)
    obtain ⟨y, hy, ry⟩ := rp.get hx
    refine ⟨.ref p, hσ, .inl ⟨rfl, xs, .of hp⟩, p, xs, y, rfl, rfl, hp, by rw [rp.length]; exact hy, ?_⟩
    obtain ⟨W2, S2⟩ := own_put (ys := xs.dropLast) (l' := l.dropLast) W S (look_some hl) hσ hp n hM (by rw [List.length_dropLast]; omega) rp.dropLast
    exact hQ _ _ y _ M q W2 (Same.refl _) S2 ry
/-- xs[i] op= e on an owned list -/
theorem get_listD : PGet X (rIxL X.K) := by
  intro pins s σ H o i ov iv Q I ro ri h
  obtain ⟨p, xs, k, v, rfl, rfl, hq, he, q⟩ := h
  cases ro
  obtain ⟨t, rfl⟩ := ri
  obtain ⟨its, r, pl, hz⟩ := I.list hq
  unfold atI at he
  cases hj : ixN xs.length k with
  | none => rw [hj] at he; cases he
  | some j =>
    rw [hj] at he
    obtain ⟨f1, f2, f3, f4⟩ := ixN_fits hj hz
    obtain ⟨w, ew, rw'⟩ := r.get (show xs[j]? = some v from he)
    have hl := r.length
    have fin : EP X pins σ Q w s := ⟨v, H, I, rw', q⟩
    unfold ixN at hj
    by_cases h0 : 0 ≤ k
    · rw [if_pos h0] at hj
      split at hj <;> cases hj
      exact wpAny_getItem_list pl.isList h0 f2 (by simpa using ew) fin
    · rw [if_neg h0] at hj
      split at hj <;> cases hj
      exact wpAny_getItem_list_neg pl.isList (by omega) (by rw [List.size_toArray]; omega) f1 (by rw [List.size_toArray, ← hl]; simpa using ew) fin
def dAugIx (i : Nat) (ti : TED) (te : TED) (f : F2) : TSD := fun E δ => (∃ l0, look δ i = some (.own l0)) ∧ ti δ fun e1 δ1 => ∃ k l1 j1 a, e1 = .d (.int k) ∧ look δ1 i = some (.own l1) ∧ ixN l1.length k = some j1 ∧ l1[j1]? = some a ∧
  te δ1 fun e2 δ2 => ∃ l j y b c, look δ2 i = some (.own l) ∧ cont δ2 e2 = some y ∧ y.rd = some b ∧ f a b = some c ∧ ixN l.length k = some j ∧ E.nx (δ2.set i (some (.own (l.set j c))))
theorem psd_augIx {i : Nat} {o a e : Expr} {ti te : TED} {op : Operator} {f : F2} {tpos : Pos} (ho : PE X o (tVar i)) (hi : PD X z a ti) (he : PD X z e te) (hp : OpR X (inplaceOp op) (rOpD X.K z.T (g2 f)))
    (ha : ∀ ov iv new, augStore a ov iv new = (do holding [new, ov, iv] (setItem ov iv new); release [new, ov, iv] []; pure .next) := by intros; rfl) : PSD X z (.AugAssign (.Subscript o a tpos) op e pos) (dAugIx i ti te f) :=
  PS.imp (ps_augS (tget := rIxL X.K) (tip := rOpD X.K z.T (g2 f)) (tset := rSetL) ho hi get_listD he (fun pins s σ H x y v u Q I r1 r2 h => hp pins s σ H x y v u Q I r1 r2 h) set_list ha) fun D σ H ⟨R, H0, M0, Mb, M, δ, ED, hO, W, sb, S, ⟨⟨l0, hl0⟩, ht⟩, hD⟩ => by
    obtain ⟨p, xs0, hσ, hp0, _, _, _, _⟩ := S.own_lst (look_some hl0)
    refine ⟨.ref p, hσ, R, H0, M0, M, δ, _, hO, W, S, ht, fun e1 δ1 v1 H1 M1 q1 W1 s1 S1 r1 => ?_⟩
    obtain ⟨k, l1, j1, d, rfl, hl1, hj1, hd, q1⟩ := q1
    obtain ⟨p', xs, hσ', hp1, hz1, rp1, n1, hM1⟩ := S1.own_lst (look_some hl1)
    rw [hσ] at hσ'; cases hσ'
    obtain ⟨w, hw, rw'⟩ := rp1.get hd
    refine ⟨p, xs, k, w, rfl, r1.int_eq, .of hp1, by unfold atI; rw [rp1.length, hj1]; exact hw, R, H0, M0, M1, δ1, _, hO, W1, S1, q1, fun e2 δ2 v2 H2 M2 q2 W2 s2 S2 r2 => ?_⟩
    obtain ⟨l, j, y, b, c, hl, hc, hb, hf, hj, q2⟩ := q2
    refine ⟨R, M2, .d d, y, fun u => u = c, W2.refl, rw'.mono s2, r2.cont S2 hc, ⟨d, b, c, rfl, hb, hf, rfl⟩, fun u v H3 M3 hu W3 r3 => ?_⟩
    subst hu
    have W3' := W2.trans W3
    have S3 := S2.ext W2 W3
    obtain ⟨p', ys, hσ', hp3, hz3, rp3, n3, hM3⟩ := S3.own_lst (look_some hl)
    rw [hσ] at hσ'; cases hσ'
    refine ⟨p, ys, k, j, rfl, r1.int_eq, hp3, by rw [rp3.length]; exact hj, ?_⟩
    obtain ⟨W4, S4⟩ := own_put (ys := ys.set j v) (l' := l.set j u) W3' S3 (look_some hl) hσ hp3 n3 hM3 (by rw [List.length_set]; exact hz3) (rp3.set r3 j)
    exact hD.nx _ σ _ M3 q2 W4 ((sb.trans s1).trans (s2.trans W3.m0)) S4
def fAddI : F2 := fInt (fun _ _ => true) (· + ·)
theorem iop_addD : OpR X (inplaceOp .Add) (rOpD X.K T (g2 fAddI)) :=
  op2 iop_add fun R H M x y a b c Q W ra rb e hQ => by
    match a, b, e with
    | .int i, .int j, e =>
      simp only [fAddI, fInt, if_true, Option.some.injEq] at e
      subst e
      exact ⟨i, j, ra.int, rb.int, hQ _ H M W (.int _)⟩

/-! ### range, all of it -/
abbrev TRD := DS → (Int → Int → DS → Prop) → Prop
def liftR (K : PySem.W.Frag) (z : Z) (t : TRD) : L2.St → Hp → (Int → Int → Hp → Prop) → Prop := fun σ H Q => ∃ (R : List RowP) (H0 M0 M : Hp) (δ : DS) (QD : Int → Int → DS → Prop), Out K z R H0 M0 ∧ Wd K z.T R H0 M0 H M ∧ Slots R H0 H M σ δ ∧ t δ QD ∧
  ∀ (a b : Int) (δ' : DS) (H' M' : Hp), QD a b δ' → Wd K z.T R H0 M0 H' M' → Same M M' → Slots R H0 H' M' σ δ' → Q a b H'
abbrev PRgD (X : Cx) (z : Z) (e : Expr) (t : TRD) : Prop := PRg X e (liftR X.K z t)
theorem PRg.imp {X : Cx} {e : Expr} {t t' : L2.St → Hp → (Int → Int → Hp → Prop) → Prop} (h : PRg X e t) (i : ∀ σ H Q, t' σ H Q → t σ H Q) : PRg X e t' := fun pins s σ H Q I q => h pins s σ H Q I (i σ H Q q)
def dRg1 (ta : TED) : TRD := fun δ Q => ta δ fun e δ' => ∃ n : Int, e = .d (.int n) ∧ Q 0 n δ'
def dRg2 (ta tb : TED) : TRD := fun δ Q => ta δ fun e δ1 => tb δ1 fun e2 δ2 => ∃ i j : Int, e = .d (.int i) ∧ e2 = .d (.int j) ∧ Q i j δ2
theorem prgd_1 {a : Expr} {ta : TED} {p pos : Pos} (hg : Gl X "range") (hm : X.mg "range" = none) (ha : PD X z a ta) (na : starEach [a] X.env = (false, eval a X.env) :: starEach [] X.env := by rfl) : PRgD X z (.Call (.Name "range" p) [a] [] pos) (dRg1 ta) :=
  PRg.imp (prg_1 hg hm ha na) fun σ H Q ⟨R, H0, M0, M, δ, QD, hO, W, S, ht, hQ⟩ => ⟨R, H0, M0, M, δ, _, hO, W, S, ht, fun e δ' v H' M' q W' s' S' r => by
    obtain ⟨n, rfl, q⟩ := q
    exact ⟨n, r.int_eq, hQ _ _ _ _ _ q W' s' S'⟩⟩
theorem prgd_2 {a b : Expr} {ta tb : TED} {p pos : Pos} (hg : Gl X "range") (hm : X.mg "range" = none) (ha : PD X z a ta) (hb : PD X z b tb) (na : starEach [a, b] X.env = (false, eval a X.env) :: starEach [b] X.env := by rfl) (nb : starEach [b] X.env = (false, eval b X.env) :: starEach [] X.env := by rfl)
    (hp : (backTo pos (starEach [b] X.env)).any (·.1) = false := by rfl) : PRgD X z (.Call (.Name "range" p) [a, b] [] pos) (dRg2 ta tb) :=
  PRg.imp (prg_2 hg hm ha hb na nb hp) fun σ H Q ⟨R, H0, M0, M, δ, QD, hO, W, S, ht, hQ⟩ => ⟨R, H0, M0, M, δ, _, hO, W, S, ht, fun e δ1 v H1 M1 q1 W1 s1 S1 r1 =>
    ⟨R, H0, M0, M1, δ1, _, hO, W1, S1, q1, fun e2 δ2 v2 H2 M2 q2 W2 s2 S2 r2 => by
      obtain ⟨i, j, rfl, rfl, q⟩ := q2
      exact ⟨i, j, r1.int_eq, r2.int_eq, hQ _ _ _ _ _ q W2 (s1.trans s2) S2⟩⟩⟩
def dSpan (mk : List PyData → PyData) (t : TRD) : TED := fun δ Q => t δ fun a b δ' => RgOk a b ∧ Q (.d (mk (rng a (b - a).toNat))) δ'
theorem rgV_rep {M : Hp} (a b : Int) : RpA M (rgV a b) (rng a (b - a).toNat) := by
  unfold rgV rng
  generalize List.range (b - a).toNat = l
  induction l with
  | nil => exact .nil
  | cons n r ih => exact .cons (.int _) ih
theorem pd_listRg {e : Expr} {t : TRD} {p pos : Pos} (hc : X.calm = true) (hg : Gl X "list") (hm : X.mg "list" = none) (he : PRgD X z e t) (na : starEach [e] X.env = (false, eval e X.env) :: starEach [] X.env := by rfl) :
    PD X z (.Call (.Name "list" p) [e] [] pos) (dSpan .list t) :=
  PE.imp (pe_listRg hc hg hm he na) fun σ H Q ⟨R, H0, M0, M, δ, QD, hO, W, S, ht, hQ⟩ => ⟨R, H0, M0, M, δ, _, hO, W, S, ht, fun a b δ' H' M' q W' s' S' => by
    obtain ⟨ok, q⟩ := q
    refine ⟨ok, fun t ht => ?_⟩
    obtain ⟨W2, r⟩ := W'.newL (xs := rgV a b) (l := rng a (b - a).toNat) ht (by rw [rng_length]; have := ok.2.2.2.2; have := sizeLine_eq; omega) (rgV_rep a b)
    exact hQ _ _ _ _ _ q (W'.trans W2) (s'.trans W2.m0) (S'.ext W' W2) r⟩
theorem pd_tupleRg {e : Expr} {t : TRD} {p pos : Pos} (hc : X.calm = true) (hg : Gl X "tuple") (hm : X.mg "tuple" = none) (he : PRgD X z e t) (na : starEach [e] X.env = (false, eval e X.env) :: starEach [] X.env := by rfl) :
    PD X z (.Call (.Name "tuple" p) [e] [] pos) (dSpan .tuple t) :=
  PE.imp (pe_tupRg hc hg hm he na) fun σ H Q ⟨R, H0, M0, M, δ, QD, hO, W, S, ht, hQ⟩ => ⟨R, H0, M0, M, δ, _, hO, W, S, ht, fun a b δ' H' M' q W' s' S' => by
    obtain ⟨ok, q⟩ := q
    refine ⟨ok, fun t ht => ?_⟩
    obtain ⟨W2, r⟩ := W'.newT (xs := rgV a b) (l := rng a (b - a).toNat) ht (by rw [rng_length]; have := ok.2.2.2.2; have := sizeLine_eq; omega) (rgV_rep a b)
    exact hQ _ _ _ _ _ q (W'.trans W2) (s'.trans W2.m0) (S'.ext W' W2) r⟩

/-! ### while -/
def dWhile (tc : TTD) (tb : TSD) : TSD := fun E δ => ∃ I : Nat → DS → Prop, (∃ m, I m δ) ∧ ∀ m δ, I m δ → tc δ fun b δ1 => if b = true then tb { E with nx := fun δ => ∃ m', m' < m ∧ I m' δ, ct := fun δ => ∃ m', m' < m ∧ I m' δ, bk := E.nx } δ1 else E.nx δ1
theorem psd_while {c : Expr} {body : List Stmt} {tc : TTD} {tb : TSD} (hp : PassesOwn (model X.prog X.w) X.A X.env X.xe) (hc : PTD X z c tc) (hb : PSsD X z body tb) : PSD X z (.While c body [] pos) (dWhile tc tb) :=
  PS.imp (ps_while hp hc hb) fun D σ H ⟨R, H0, M0, Mb, M, δ, ED, hO, W, sb, S, ht, hD⟩ => by
    obtain ⟨I, ⟨m0, i0⟩, turn⟩ := ht
    refine ⟨fun m σ H => ∃ δ M, I m δ ∧ Wd X.K z.T R H0 M0 H M ∧ Same Mb M ∧ Slots R H0 H M σ δ, ⟨m0, δ, M, i0, W, sb, S⟩, ?_⟩
    rintro m σ1 H1 ⟨δ1, M1, i1, W1, sb1, S1⟩
    refine ⟨R, H0, M0, M1, δ1, _, hO, W1, S1, turn m δ1 i1, fun b δ2 H2 M2 q2 W2 s2 S2 => ?_⟩
    cases b with
    | false =>
      rw [if_neg Bool.false_ne_true] at q2 ⊢
      exact hD.nx δ2 σ1 H2 M2 q2 W2 (sb1.trans s2) S2
    | true =>
      rw [if_pos rfl] at q2 ⊢
      refine ⟨fun σ' H' => ∃ m', m' < m ∧ ∃ δ M, I m' δ ∧ Wd X.K z.T R H0 M0 H' M ∧ Same Mb M ∧ Slots R H0 H' M σ' δ, fun σ' H' h => h, R, H0, M0, Mb, M2, δ2, _, hO, W2, sb1.trans s2, S2, q2, ?_⟩
      exact { nx := fun δ σ H M ⟨m', hm, i⟩ W sb S => ⟨m', hm, δ, M, i, W, sb, S⟩, ct := fun δ σ H M ⟨m', hm, i⟩ W sb S => ⟨m', hm, δ, M, i, W, sb, S⟩, bk := fun δ σ H M q W sb S => hD.nx δ σ H M q W sb S, rt := hD.rt }
end
end DL
/-! The data layer 9: enumerate of a tuple. -/
namespace EnumT
open PySem PySem.Spec PyProof.Rows
open PySem.Sem (wp)
set_option maxHeartbeats 1000000 in
theorem meets_new1 {v : Value} {o : Obj} {H : Heap → Prop} (B : Begins v o H) :
    Meets (Builtin.«enumerate.__new__» ⟨[.type "enumerate", v], []⟩) (fun _ R s => H s.heap ∧
      R (.ok (.ret (.ref (s.heap.push o).objs.size))) { s with heap := (s.heap.push o).push { cls := .type "enumerate", data := .fields #[.none, .bool false, .ref s.heap.objs.size, rawInt 0, .none, .none] } }) :=
  .of_wp fun prog w A R s h => by
    obtain ⟨hp, g, d, tk, os⟩ := s
    obtain ⟨h1, h⟩ := h
    have hsub := sub_enumerate
    have q1 : ∀ {A' : Around} {E : Value → Shared → Prop} {Q : Value → Shared → Prop}, Q (.ref hp.objs.size) ⟨hp.push o, g, d, tk, os⟩ → wpAny (model prog w) A' (pyIter v) Q E ⟨hp, g, d, tk, os⟩ :=
      fun q => B.iter prog w _ _ ⟨hp, g, d, tk, os⟩ _ h1 q
    wp_walk using q1
    refine wpAny_stack_any fun st => wpAny_pure ?_
    split
    · rename_i c _ _ _ _ _
      cases (c == Value.type "enumerate") <;> (wp_walk using q1; exact ⟨_, rfl, h⟩)
    · wp_walk using q1
      exact ⟨_, rfl, h⟩
section
variable {prog : Program} {w : World} {A : Around} {E : Value → Shared → Prop} {s : Shared}
theorem call1 {v : Value} {o : Obj} {H : Heap → Prop} {Q : Value → Shared → Prop} (B : Begins v o H) (h1 : H s.heap)
    (h : ∀ h', IsEnum h' (s.heap.objs.size + 1) s.heap.objs.size 0 .none → h'.get? s.heap.objs.size = some o → (∀ b o, s.heap.get? b = some o → h'.get? b = some o) → Q (.ref (s.heap.objs.size + 1)) { s with heap := h' }) :
    wpAny (model prog w) A (call (.type "enumerate") [v]) Q E s := by
  refine callType_new F.called_enumerate (by decide) (F.typeCall_enumerate_1 _) (F.newCall_enumerate_1 _) (fun obj => F.args_object_init_2 obj _) F.entry_enumerate_new (meets_new1 B) ⟨h1, ?_⟩
  have hz : (s.heap.push o).objs.size = s.heap.objs.size + 1 := Heap.size_push ..
  show _ ∧ _
  rw [hz]
  have he : IsEnum ((s.heap.push o).push { cls := .type "enumerate", data := .fields #[.none, .bool false, .ref s.heap.objs.size, rawInt 0, .none, .none] }) (s.heap.objs.size + 1) s.heap.objs.size 0 .none := by
    have q := Heap.get?_push_size (s.heap.push o) (o := { cls := .type "enumerate", data := .fields #[.none, .bool false, .ref s.heap.objs.size, rawInt 0, .none, .none] }) rfl
    rw [hz] at q
    exact q
  exact ⟨⟨_, he, rfl⟩, h _ he (Heap.get?_push_of_some _ (Heap.get?_push_size _ B.free)) fun b o x => Heap.get?_push_of_some _ (Heap.get?_push_of_some _ x)⟩
end
end EnumT
namespace DL
open PySem PySem.Spec L2
def IteT (K : PySem.W.Frag) (a : Addr) : It :=
  ⟨fun i H => ∃ (xs : List V) (x : V), SqT K H a xs ∧ xs[i]? = some x, fun i H v H' => ∃ T x, v = .ref T ∧ H T = none ∧ H' = upd H T (.tup [.int (i : Nat), x]) ∧ ∀ xs, SqT K H a xs → xs[i]? = some x, fun i H => ∃ xs : List V, SqT K H a xs ∧ xs.length ≤ i⟩
theorem turn_enumT {P : Program} {w : World} {K : PySem.W.Frag} {elts : List Expr} {kk : Nat} {tpos : Pos} (a e it : Addr) :
    Turn P w K (.Tuple elts kk tpos) (IteT K a) [e, it] e (fun i h => (∃ old, IsEnum h e it ((i : Nat) : Int) old) ∧ h.IsTupleIter it a i ∧ e ≠ it ∧ e ≠ a ∧ a ≠ it) where
  mem := by simp
  obj := fun i h st b hb => by
    obtain ⟨⟨old, he⟩, ⟨o, ho, hc, hd⟩, _⟩ := st
    rcases (by simpa using hb : b = e ∨ b = it) with rfl | rfl
    · exact ⟨_, he, fun v q => nomatch q⟩
    · exact ⟨o, ho, fun v q => by rw [hd] at q; cases q⟩
  keep := fun i h h' st k => by
    obtain ⟨⟨old, he⟩, hi, r⟩ := st
    exact ⟨⟨old, k e (by simp) _ he⟩, hi.at fun o q => k it (by simp) o q, r⟩
  item := by
    intro X hP hw hK hc i pins s σ H E I hf st hg
    subst hP hw hK
    obtain ⟨⟨old, he⟩, hit, hne, hea, hai⟩ := st
    obtain ⟨xs, x, hq, hx⟩ := hg
    obtain ⟨its, rv, p, hz⟩ := I.tuple hq
    obtain ⟨u, hu, ru⟩ := rv.get hx
    have hel : e < s.heap.objs.size := Heap.lt_size he
    have hil : it < s.heap.objs.size := by obtain ⟨_, q, _⟩ := hit; exact Heap.lt_size q
    have hlt : i < its.toArray.size := by rw [List.size_toArray]; exact (List.getElem?_eq_some_iff.mp hu).1
    refine wpAny_pyNext_enum_itemD (Draws.tuple (A := X.A.in1) (I.ok.hd hc) it a hai its.toArray) he ⟨hit, p⟩ hlt hne (by simp [hne, hea]) fun x' h' tk hP ho hs' hT hsz hk => ?_
    obtain ⟨hit', p'⟩ := hs'
    have ex : x' = u := by
      have q1 : its[i]? = some x' := by simpa using hP
      rw [hu] at q1
      exact (Option.some.inj q1).symm
    subst ex
    refine ⟨_, rfl, wpAny_letOwnedTupleGo_enum (s := { s with heap := h', toks := tk + 1 }) ho fun h'' he' sb => ?_⟩
    have hT2 : h''.get? s.heap.objs.size = some { cls := .type "tuple", data := .seq #[.int i tk, x'] } := (sb.2 _ (Nat.ne_of_gt hel)).trans hT
    have new : ObjOk X.prog X.w (upd H s.heap.objs.size (.tup [.int (i : Nat), x])) h'' s.heap.objs.size (.tup [.int (i : Nat), x]) :=
      ⟨by show 2 ≤ sizeLine; decide, [.int i tk, x'], .cons ⟨_, rfl⟩ (.cons ru .nil), ⟨_, hT2, rfl, _, rfl⟩⟩
    have I1 : Inv X pins σ (upd H s.heap.objs.size (.tup [.int (i : Nat), x])) { s with heap := h'', toks := tk + 1 } :=
      I.turnedNew (ch := [e, it]) (fun b ob hb q => (sb.2 b (fun z => hb (by simp [z]))).trans (hk b ob (fun z => hb (by simp [z])) (fun z => hb (by simp [z])) q)) hf (Nat.le_refl _) new
    refine ⟨.ref s.heap.objs.size, _, I1, rfl, ⟨_, x, rfl, I.hok.fresh (Nat.le_refl _), rfl, fun ys hy => by rw [I.tuple_inj hy hq]; exact hx⟩, ⟨⟨x', ?_⟩, hit'.at fun o q => (sb.2 it (Ne.symm hne)).trans q, hne, hea, hai⟩, fun b hb => ?_⟩
    · rw [show ((i + 1 : Nat) : Int) = (i : Int) + 1 by omega]
      exact he'
    · have hb' : b < s.heap.objs.size := by
        rcases (by simpa using hb : b = e ∨ b = it) with rfl | rfl
        · exact hel
        · exact hil
      rw [upd_ne (Nat.ne_of_lt hb')]
      exact (hf b hb).1
  done := by
    intro X hP hw hK hc i pins s σ H E I hf st hg
    subst hP hw hK
    obtain ⟨⟨old, he⟩, hit, hne, hea, hai⟩ := st
    obtain ⟨xs, hq, hx⟩ := hg
    obtain ⟨its, rv, p, hz⟩ := I.tuple hq
    obtain ⟨f0, f1, f2, f3, f4, f5⟩ := hf it (by simp)
    have hn : its.toArray.size ≤ i := by rw [List.size_toArray, ← rv.length]; exact hx
    have D : Draws X.prog X.w X.A.in1 it [it, a] 0 (fun _ _ => True) (fun _ h => h.IsTupleIter it a i ∧ h.IsTuple a its.toArray) := {
      live := fun _ _ st => let ⟨o, ho, _⟩ := st.1; ⟨o, ho⟩
      frame := fun _ _ _ st hk => ⟨st.1.at fun o e => hk it (by simp) o e, st.2.at fun o e => hk a (by simp) o e⟩
      item := fun j s Q E hj => absurd hj (Nat.not_lt_zero j)
      done := fun s Q E st hE => wpAny_nextOf_tuple_end (A := X.A.in1) (I.ok.hd hc) st.1 st.2 (Array.getElem?_eq_none hn) hE }
    exact wpAny_pyNext_enum_endD D he ⟨hit, p⟩ fun h' eb => ⟨rfl, I.turned (t' := s.toks) (fun b o hb q => eb b o hb q) f0 f1 f3 f4 f5⟩
  self := fun A i s Q E st h => by
    obtain ⟨⟨_, he⟩, _⟩ := st
    exact wpAny_pyIter_enum he h
def iEnumT (K : PySem.W.Frag) (ta : TA) : TI := fun σ H R => ta σ H fun vs H1 => ∃ a xs, vs = [.ref a] ∧ SqT K H1 a xs ∧ R (IteT K a) H1
open PyProof.Rows in
theorem pi_enumT {X : Cx} {e : Expr} {ta : TA} {p pos tpos : Pos} {elts : List Expr} {kk : Nat} (hg : Gl X "enumerate") (hm : X.mg "enumerate" = none) (ha : PA X [e] ta) (hs : starEach [e] X.env = [(false, eval e X.env)] := by rfl) :
    PI X (.Tuple elts kk tpos) (.Call (.Name "enumerate" p) [e] [] pos) (iEnumT X.K ta) := by
  refine ⟨fun pins s σ H R I h => ?_⟩
  refine Call_ (ld_blt I hg hm PyProof.Rows.boot_enumerate (PyProof.Rows.callWith_type1 (thn (ha.run pos pins s σ H _ I h) fun us s1 ⟨vs, H1, I1, r1, q1⟩ => ?_) hs rfl))
  obtain ⟨a, xs, rfl, hq, q⟩ := q1
  cases r1 with
  | cons r rr =>
    cases rr
    cases r
    obtain ⟨its, rv, p', hz⟩ := I1.tuple hq
    have hlt : a < s1.heap.objs.size := p'.lt
    refine EnumT.call1 (begins_tuple a its.toArray) p' fun h' he hit hk => wpAny_pyIter_enum he ?_
    have I2 : Inv X pins σ H1 { s1 with heap := h' } := I1.kept (t' := s1.toks) hk
    refine ⟨s1.heap.objs.size + 1, [s1.heap.objs.size + 1, s1.heap.objs.size], _, _, H1, rfl, I2, turn_enumT a (s1.heap.objs.size + 1) s1.heap.objs.size, ⟨⟨.none, he⟩, ⟨_, hit, rfl, rfl⟩, Nat.succ_ne_self _, Nat.ne_of_gt (Nat.lt_succ_of_lt hlt), Nat.ne_of_lt hlt⟩, fun b hb => ?_, q⟩
    have hle : s1.heap.objs.size ≤ b := by
      rcases (by simpa using hb : b = s1.heap.objs.size + 1 ∨ b = s1.heap.objs.size) with rfl | rfl
      · exact Nat.le_add_right _ _
      · exact Nat.le_refl _
    exact I1.fpOk hle (I1.hok.fresh hle)
section
variable {X : Cx} {z : Z} {e : Expr} {ta : TAD} {p pos : Pos}
theorem rep_enumT {K : PySem.W.Frag} {a : Addr} {vs : List V} {xs : List PyData} {M0 : Hp} (h : M0 a = some (.tup vs)) (r : RpA M0 vs xs) : RepIt (IteT K a) (enumD xs) M0 := fun i H M s1 s2 => by
  have hs : SqT K H a vs := .of (s2 _ _ (s1 _ _ h))
  have l1 := r.length
  rw [enumD_length]
  refine ⟨fun hi => ?_, fun hi => ⟨vs, hs, by omega⟩, fun x H' hi ⟨T, x1, e1, e2, e3, f1⟩ => ?_⟩
  · obtain ⟨v, ev, _⟩ := r.get (List.getElem?_eq_getElem hi)
    exact ⟨vs, v, hs, ev⟩
  · have ex := List.getElem?_eq_getElem hi
    obtain ⟨v, ev, rv⟩ := r.get ex
    have := f1 vs hs; rw [ev] at this; cases this
    exact ⟨_, enumD_get ex, .inr ⟨T, _, [.int (i : Nat), xs[i]], e1, e2, e3, two_le, .cons (.int _) (.cons (rv.mono s1) .nil), rfl⟩⟩
def diEnumT (ta : TAD) : TID := fun δ Q => ta δ fun es δ' => ∃ xs, es = [.d (.tuple xs)] ∧ Q (enumD xs) δ'
theorem pid_enumT {tpos : Pos} {elts : List Expr} {kk : Nat} (hg : Gl X "enumerate") (hm : X.mg "enumerate" = none) (ha : PAD X z [e] ta) (hs : starEach [e] X.env = [(false, eval e X.env)] := by rfl) :
    PID X z (.Tuple elts kk tpos) (.Call (.Name "enumerate" p) [e] [] pos) (diEnumT ta) :=
  PI.imp (pi_enumT hg hm ha hs) fun σ H R' ⟨R, H0, M0, M, δ, QD, hO, W, S, ht, hQ⟩ => ⟨R, H0, M0, M, δ, _, hO, W, S, ht, fun e δ' v H' M' q W' s' S' r => by
    obtain ⟨xs, rfl, q⟩ := q
    obtain ⟨v, rfl, r1⟩ := r.one
    cases r1 with
    | tup h1 z1 r1 => exact ⟨_, _, rfl, .of (W'.sub _ _ h1), hQ _ _ _ _ _ q W' s' S' (rep_enumT h1 r1)⟩⟩
end
end DL
/-! The data layer 10: dicts of tuple keys. -/
namespace DL
open PySem PySem.Spec L2
/-! ### walking one -/
def ItNv (a : Addr) (o : Obj) (es : List DE) : It :=
  ⟨fun i H => H a = some (DNo a o) ∧ i < es.length, fun i H x H' => H' = H ∧ ∃ e, es[i]? = some e ∧ x = e.2.2, fun i H => H a = some (DNo a o) ∧ es.length ≤ i⟩
def ItNi (a : Addr) (o : Obj) (es : List DE) : It :=
  ⟨fun i H => H a = some (DNo a o) ∧ i < es.length, fun i H x H' => ∃ T e, es[i]? = some e ∧ x = .ref T ∧ H T = none ∧ H' = upd H T (.tup [.ref e.2.1, e.2.2]), fun i H => H a = some (DNo a o) ∧ es.length ≤ i⟩
section
variable {P : Program} {w : World} {K : PySem.W.Frag} {tg : Expr} {a : Addr} {o : Obj} {es : List DE} {ents : Array DictEntry} {ep : Nat}
theorem turn_valsN (it : Addr) (d : DObj o es) (hod : o.data = .dict ents ep) : Turn P w K tg (ItNv a o es) [it] it (fun i h => h.IsValIter it a i es.length ep) where
  mem := by simp
  obj := fun i h st b hb => by
    obtain rfl : b = it := by simpa using hb
    obtain ⟨oi, e, c, dd⟩ := st
    exact ⟨oi, e, fun v z => by rw [dd] at z; cases z⟩
  keep := fun i h h' st k => st.at fun oi e => k it (by simp) oi e
  item := by
    intro X hP hw hK hc i pins s σ H E I hf st hg
    subst hP hw hK
    obtain ⟨hd, hi⟩ := hg
    obtain ⟨f0, f1, f2, f3, f4, f5⟩ := hf it (by simp)
    obtain ⟨ents', ep', hm, hdt, hl, hen⟩ := dn_raw I hd d
    obtain ⟨rfl, rfl⟩ := dict_ep hod hdt
    obtain ⟨e, he⟩ : ∃ e, es[i]? = some e := ⟨es[i], List.getElem?_eq_getElem hi⟩
    obtain ⟨hi', _, rv⟩ := hen i e he
    rw [← hl] at st
    refine wpAny_pyNext_values_item_raw st hm hi' fun h' st' sb => ?_
    have I1 : Inv X pins σ H { s with heap := h' } := I.turned (t' := s.toks) (fun b ob hb q => (sb.2 b hb).trans q) f0 f1 f3 f4 f5
    obtain ⟨oi, q, c, dd⟩ := id st'
    refine ⟨_, rfl, go_of (s := { s with heap := h' }) q c dd (by decide) ⟨e.2.2, H, I1, rv, ⟨rfl, e, he, rfl⟩, ?_, fun b hb => (hf b hb).1⟩⟩
    show h'.IsValIter it a (i + 1) es.length _
    rw [← hl]
    exact st'
  done := by
    intro X hP hw hK hc i pins s σ H E I hf st hg
    subst hP hw hK
    obtain ⟨hd, hi⟩ := hg
    obtain ⟨f0, f1, f2, f3, f4, f5⟩ := hf it (by simp)
    obtain ⟨ents', ep', hm, hdt, hl, hen⟩ := dn_raw I hd d
    obtain ⟨rfl, rfl⟩ := dict_ep hod hdt
    rw [← hl] at st
    exact wpAny_pyNext_values_end_raw (I.ok.hd hc) st hm (by omega) fun h' eb => ⟨rfl, I.turned (t' := s.toks) (fun b ob hb q => eb b ob hb q) f0 f1 f3 f4 f5⟩
  self := fun A i s Q E st h => wpAny_pyIter_valiter st h
theorem turn_itemsN {elts : List Expr} {kk : Nat} {tpos : Pos} (it : Addr) (d : DObj o es) (hod : o.data = .dict ents ep) :
    Turn P w K (.Tuple elts kk tpos) (ItNi a o es) [it] it (fun i h => ∃ ok ov, IsItemIter h it a i es.length ep ok ov) where
  mem := by simp
  obj := fun i h st b hb => by
    obtain rfl : b = it := by simpa using hb
    obtain ⟨ok, ov, e⟩ := st
    exact ⟨_, e, fun v z => nomatch z⟩
  keep := fun i h h' st k => let ⟨ok, ov, e⟩ := st; ⟨ok, ov, k it (by simp) _ e⟩
  item := by
    intro X hP hw hK hc i pins s σ H E I hf st hg
    subst hP hw hK
    obtain ⟨hd, hi⟩ := hg
    obtain ⟨ents', ep', hm, hdt, hl, hen⟩ := dn_raw I hd d
    obtain ⟨rfl, rfl⟩ := dict_ep hod hdt
    obtain ⟨e, he⟩ : ∃ e, es[i]? = some e := ⟨es[i], List.getElem?_eq_getElem hi⟩
    obtain ⟨hi', hk', rv⟩ := hen i e he
    obtain ⟨ok, ov, st⟩ := st
    rw [← hl] at st
    have hlt : it < s.heap.objs.size := Heap.lt_size st
    refine wpAny_pyNext_items_item_raw st hm hi' fun h' ho hT hz hk => ?_
    refine ⟨_, rfl, wpAny_letOwnedTupleGo_items (s := { s with heap := h' }) ho fun h'' he' sb => ?_⟩
    have hT2 : h''.get? s.heap.objs.size = some { cls := .type "tuple", data := .seq #[ents'[i].key, ents'[i].val] } := (sb.2 _ (Nat.ne_of_gt hlt)).trans hT
    have new : ObjOk X.prog X.w (upd H s.heap.objs.size (.tup [.ref e.2.1, e.2.2])) h'' s.heap.objs.size (.tup [.ref e.2.1, e.2.2]) :=
      ⟨by show 2 ≤ sizeLine; decide, [ents'[i].key, ents'[i].val], .cons hk' (.cons rv .nil), ⟨_, hT2, rfl, _, rfl⟩⟩
    have I1 : Inv X pins σ (upd H s.heap.objs.size (.tup [.ref e.2.1, e.2.2])) { s with heap := h'' } :=
      I.turnedNew (t' := s.toks) (ch := [it]) (fun b ob hb q => (sb.2 b (by simpa using hb)).trans (hk b ob (by simpa using hb) q)) hf (Nat.le_refl _) new
    refine ⟨.ref s.heap.objs.size, _, I1, rfl, ⟨_, e, he, rfl, I.hok.fresh (Nat.le_refl _), rfl⟩, ⟨ents'[i].key, ents'[i].val, ?_⟩, fun b hb => ?_⟩
    · rw [← hl]; exact he'
    · obtain rfl : b = it := by simpa using hb
      rw [upd_ne (Nat.ne_of_lt hlt)]
      exact (hf b hb).1
  done := by
    intro X hP hw hK hc i pins s σ H E I hf st hg
    subst hP hw hK
    obtain ⟨hd, hi⟩ := hg
    obtain ⟨f0, f1, f2, f3, f4, f5⟩ := hf it (by simp)
    obtain ⟨ents', ep', hm, hdt, hl, hen⟩ := dn_raw I hd d
    obtain ⟨rfl, rfl⟩ := dict_ep hod hdt
    obtain ⟨ok, ov, st⟩ := st
    rw [← hl] at st
    exact wpAny_pyNext_items_end_raw (I.ok.hd hc) st hm (by omega) fun h' eb => ⟨rfl, I.turned (t' := s.toks) (fun b ob hb q => eb b ob hb q) f0 f1 f3 f4 f5⟩
  self := fun A i s Q E st h => let ⟨_, _, e⟩ := st; PySem.W.kcp_self e h
end
def iValsN (td : TE) : TI := fun σ H R => td σ H fun x H1 => ∃ a o es, x = .ref a ∧ H1 a = some (DNo a o) ∧ DObj o es ∧ R (ItNv a o es) H1
def iItemsN (td : TE) : TI := fun σ H R => td σ H fun x H1 => ∃ a o es, x = .ref a ∧ H1 a = some (DNo a o) ∧ DObj o es ∧ R (ItNi a o es) H1
section
variable {X : Cx} {tg e : Expr} {td : TE} {apos cpos : Pos}
open PyProof.Rows in
theorem pi_valuesN (he : PE X e td) (hbase : attributeBase e "values" X.env (eval e X.env) = eval e X.env := by rfl) (hline : (apos.endLine == cpos.line) = true := by rfl) : PI X tg (.Call (.Attribute e "values" apos) [] [] cpos) (iValsN td) := by
  refine ⟨fun pins s σ H R I h => ?_⟩
  refine wpAny_Call_method (T := "dict") (id := "dict.values") hbase rfl hline F.plainAttrs_dict F.slot_dict_values F.type_dict_values (thn (he.run pins s σ H _ I h) fun u s1 ⟨x, H1, I1, rx, d, o, es, ex, hd, dd, q⟩ => ?_)
  subst ex
  obtain rfl : u = Value.ref d := rx
  obtain ⟨ents, ep, hm, hdt, hl, hen⟩ := dn_raw I1 hd dd
  obtain ⟨hob, hs⟩ := DNo.heap I1 hd
  have I2 : Inv X pins σ H1 { s1 with heap := s1.heap.push { cls := .type "dict_values", data := .fields #[.ref d] } } := I1.kept (t' := s1.toks) fun b ob q => Heap.get?_push_of_some _ q
  have fin : wpAny (model X.prog X.w) X.A (pyIter (.ref s1.heap.objs.size)) (PIE X pins σ tg R) X.xe { s1 with heap := s1.heap.push { cls := .type "dict_values", data := .fields #[.ref d] } } := by
    refine wpAny_pyIter_values_raw (d := d) ⟨_, Heap.get?_push_size _ rfl, rfl, rfl⟩ (hm.at fun ob q => Heap.get?_push_of_some _ q) (pi_one (tk := s1.toks) I2 _ (turn_valsN _ dd hdt) ⟨_, Heap.get?_push_size _ rfl, rfl, ?_⟩ q)
    rw [hl] <;> rfl
  refine ⟨hm.typeIs, fun b hb => ?_, ?_⟩
  · cases hb
    exact ⟨o, hob, dd.ex.2.1⟩
  · exact method_meetsIn F.slot_dict_values F.entry_dict_values rfl (PySem.evalArgs_none ⟨rfl, hm.typeIs, F.args_dict_values_1 _, _, meets_dict_values_raw d hs, ⟨_, _, hm⟩, fin⟩)
open PyProof.Rows in
theorem pi_itemsN {elts : List Expr} {kk : Nat} {tpos : Pos} (he : PE X e td) (hbase : attributeBase e "items" X.env (eval e X.env) = eval e X.env := by rfl) (hline : (apos.endLine == cpos.line) = true := by rfl) : PI X (.Tuple elts kk tpos) (.Call (.Attribute e "items" apos) [] [] cpos) (iItemsN td) := by
  refine ⟨fun pins s σ H R I h => ?_⟩
  refine wpAny_Call_method (T := "dict") (id := "dict.items") hbase rfl hline F.plainAttrs_dict F.slot_dict_items F.type_dict_items (thn (he.run pins s σ H _ I h) fun u s1 ⟨x, H1, I1, rx, d, o, es, ex, hd, dd, q⟩ => ?_)
  subst ex
  obtain rfl : u = Value.ref d := rx
  obtain ⟨ents, ep, hm, hdt, hl, hen⟩ := dn_raw I1 hd dd
  obtain ⟨hob, hs⟩ := DNo.heap I1 hd
  have I2 : Inv X pins σ H1 { s1 with heap := s1.heap.push { cls := .type "dict_items", data := .fields #[.ref d] } } := I1.kept (t' := s1.toks) fun b ob q => Heap.get?_push_of_some _ q
  have fin : wpAny (model X.prog X.w) X.A (pyIter (.ref s1.heap.objs.size)) (PIE X pins σ (.Tuple elts kk tpos) R) X.xe { s1 with heap := s1.heap.push { cls := .type "dict_items", data := .fields #[.ref d] } } := by
    refine wpAny_pyIter_items_raw (d := d) ⟨_, Heap.get?_push_size _ rfl, rfl, rfl⟩ (hm.at fun ob q => Heap.get?_push_of_some _ q) (pi_one (tk := s1.toks) I2 _ (turn_itemsN _ dd hdt) ⟨.none, .none, ?_⟩ q)
    rw [← hl]
    exact Heap.get?_push_size _ rfl
  refine ⟨hm.typeIs, fun b hb => ?_, ?_⟩
  · cases hb
    exact ⟨o, hob, dd.ex.2.1⟩
  · exact method_meetsIn F.slot_dict_items F.entry_dict_items rfl (PySem.evalArgs_none ⟨rfl, hm.typeIs, F.args_dict_items_1 _, _, meets_dict_items_raw d hs, ⟨_, _, hm⟩, fin⟩)
end

/-! ### by data -/
abbrev DD := List (PyData × PyData)
/-- a dict that stands for D -/
structure Nd (H M : Hp) (a : Addr) (o : Obj) (es : List DE) (D : DD) : Prop where
  at_ : H a = some (DNo a o)
  obj : DObj o es
  keys : es.map (fun e => e.1.data) = D.map (·.1)
  ka : RpA M (es.map fun e => V.ref e.2.1) (D.map (·.1))
  va : RpA M (es.map fun e => e.2.2) (D.map (·.2))
mutual
theorem data_num : ∀ {k : NK} {i : Int}, k.data = .int i → k = .num i
  | .num j, i, h => by simp [NestedKey.data] at h; rw [h]
  | .none, i, h => by simp [NestedKey.data] at h
  | .text _, i, h => by simp [NestedKey.data] at h
  | .tup _, i, h => by simp [NestedKey.data] at h
end
mutual
theorem Rp.kv {M H : Hp} (s : Same M H) : ∀ {k : NK} {v : V}, Rp M v k.data → noText k = true → Kv H k v
  | .num i, v, r, _ => by
    rw [show v = .int i from Rp.int_eq (by simpa [NestedKey.data] using r)]
    exact .num i
  | .tup ks, v, r, h => by
    rw [NestedKey.data] at r
    cases r with
    | tup hM z r => exact .tup (s _ _ hM) (RpA.kvs s r (by simpa [noText] using h))
  | .none, v, r, h => by simp [noText] at h
  | .text _, v, r, h => by simp [noText] at h
theorem RpA.kvs {M H : Hp} (s : Same M H) : ∀ {ks : List NK} {vs : List V}, RpA M vs (NestedKey.datas ks) → noTexts ks = true → KvA H ks vs
  | [], vs, r, _ => by
    rw [NestedKey.datas] at r
    cases r
    exact .nil
  | k :: ks, vs, r, h => by
    rw [NestedKey.datas] at r
    simp only [noTexts, Bool.and_eq_true] at h
    cases r with
    | cons r1 r2 => exact .cons (Rp.kv s r1 h.1) (RpA.kvs s r2 h.2)
end
theorem Nd.keysAre {H M : Hp} {a : Addr} {o : Obj} {es : List DE} {D : DD} (n : Nd H M a o es D) (s : Same M H) : KeysAre H es := fun x hx => by
  obtain ⟨i, hi⟩ := List.mem_iff_getElem?.mp hx
  have h1 : (es.map fun e => V.ref e.2.1)[i]? = some (.ref x.2.1) := by rw [List.getElem?_map, hi]; rfl
  obtain ⟨d, hd, r⟩ := n.ka.getV h1
  have h2 : (es.map fun e => e.1.data)[i]? = some x.1.data := by rw [List.getElem?_map, hi]; rfl
  rw [n.keys, hd] at h2
  cases h2
  exact r.kv s (n.obj.ok x hx).1
theorem Rp.nd {M : Hp} {v : V} {D : DD} (h : Rp M v (.dict D)) : ∃ a o es, v = .ref a ∧ Nd M M a o es D := by
  cases h with
  | dN h d k1 k2 r => exact ⟨_, _, _, rfl, ⟨h, d, k1, k2, r⟩⟩
/-- a dict to be read: shared or one's own; its keys are tuples -/
def DV.dd : DV → Option DD
  | .d (.dict D) => some D
  | .oN D => some D
  | _ => none

mutual
def nkOf : PyData → Option NK
  | .int i => some (.num i)
  | .tuple l => (nksOf l).map .tup
  | _ => none
def nksOf : List PyData → Option (List NK)
  | [] => some []
  | d :: r => match nkOf d, nksOf r with
    | some k, some ks => some (k :: ks)
    | _, _ => none
end
mutual
theorem nkOf_data : ∀ {k : NK}, noText k = true → nkOf k.data = some k
  | .num i, _ => by simp [NestedKey.data, nkOf]
  | .tup ks, h => by
    rw [NestedKey.data, nkOf, nksOf_datas (by simpa [noText] using h)]
    rfl
  | .none, h => by simp [noText] at h
  | .text _, h => by simp [noText] at h
theorem nksOf_datas : ∀ {ks : List NK}, noTexts ks = true → nksOf (NestedKey.datas ks) = some ks
  | [], _ => by simp [NestedKey.datas, nksOf]
  | k :: ks, h => by
    simp only [noTexts, Bool.and_eq_true] at h
    rw [NestedKey.datas, nksOf, nkOf_data h.1, nksOf_datas h.2]
end
mutual
theorem nkOf_eq : ∀ {d : PyData} {k : NK}, nkOf d = some k → k.data = d ∧ noText k = true
  | .int i, k, h => by
    simp only [nkOf, Option.some.injEq] at h
    subst h
    exact ⟨by simp [NestedKey.data], rfl⟩
  | .tuple l, k, h => by
    simp only [nkOf] at h
    cases q : nksOf l with
    | none => rw [q] at h; cases h
    | some ks =>
      rw [q] at h
      cases h
      obtain ⟨h1, h2⟩ := nksOf_eq q
      exact ⟨by rw [NestedKey.data, h1], by rw [noText, h2]⟩
  | .none, k, h => by simp [nkOf] at h
  | .bool _, k, h => by simp [nkOf] at h
  | .str _, k, h => by simp [nkOf] at h
  | .list _, k, h => by simp [nkOf] at h
  | .dict _, k, h => by simp [nkOf] at h
theorem nksOf_eq : ∀ {l : List PyData} {ks : List NK}, nksOf l = some ks → NestedKey.datas ks = l ∧ noTexts ks = true
  | [], ks, h => by
    simp only [nksOf, Option.some.injEq] at h
    subst h
    exact ⟨by simp [NestedKey.datas], rfl⟩
  | d :: r, ks, h => by
    simp only [nksOf] at h
    cases q : nkOf d with
    | none => rw [q] at h; cases h
    | some k =>
      cases q2 : nksOf r with
      | none => rw [q, q2] at h; cases h
      | some kr =>
        rw [q, q2] at h
        cases h
        obtain ⟨h1, h2⟩ := nkOf_eq q
        obtain ⟨h3, h4⟩ := nksOf_eq q2
        exact ⟨by rw [NestedKey.datas, h1, h3], by rw [noTexts, h2, h4]; rfl⟩
end
def dget (D : DD) (k : NK) : Option PyData := (D.find? fun p => decide (nkOf p.1 = some k)).map (·.2)
def dput (D : DD) (k : NK) (x : PyData) : DD := if (D.any fun p => decide (nkOf p.1 = some k)) = true then D.map (fun p => if nkOf p.1 = some k then (p.1, x) else p) else D ++ [(k.data, x)]
section
variable {M H : Hp}
theorem nd_find : ∀ {es : List DE} {D : DD}, es.map (fun e => e.1.data) = D.map (·.1) → RpA M (es.map fun e => e.2.2) (D.map (·.2)) → (∀ x ∈ es, noText x.1 = true ∧ x.1.depth ≤ 8) → ∀ k : NK,
    (eget es k = none ∧ dget D k = none) ∨ ∃ v' v, eget es k = some v' ∧ dget D k = some v ∧ Rp M v' v
  | [], [], _, _, _, k => .inl ⟨rfl, rfl⟩
  | e :: es, p :: D, hk, va, ok, k => by
    simp only [List.map_cons, List.cons.injEq] at hk va
    cases va with
    | cons r va =>
      have hn : nkOf p.1 = some e.1 := by rw [← hk.1]; exact nkOf_data (ok e List.mem_cons_self).1
      unfold eget dget
      by_cases h : e.1 = k
      · refine .inr ⟨e.2.2, p.2, by simp [List.find?_cons, h], by simp [List.find?_cons, hn, h], r⟩
      · have h2 : ¬ nkOf p.1 = some k := fun q => h (by rw [hn] at q; exact Option.some.inj q)
        simp only [List.find?_cons, h, h2, decide_false]
        exact nd_find hk.2 va (fun x hx => ok x (List.mem_cons_of_mem _ hx)) k
  | [], _ :: _, hk, _, _, _ => by simp at hk
  | _ :: _, [], hk, _, _, _ => by simp at hk
theorem nd_any : ∀ {es : List DE} {D : DD}, es.map (fun e => e.1.data) = D.map (·.1) → (∀ x ∈ es, noText x.1 = true ∧ x.1.depth ≤ 8) → ∀ k : NK, (es.any fun e => decide (e.1 = k)) = (D.any fun p => decide (nkOf p.1 = some k))
  | [], [], _, _, k => rfl
  | e :: es, p :: D, hk, ok, k => by
    simp only [List.map_cons, List.cons.injEq] at hk
    have hn : nkOf p.1 = some e.1 := by rw [← hk.1]; exact nkOf_data (ok e List.mem_cons_self).1
    simp only [List.any_cons, hn, Option.some.injEq]
    rw [nd_any hk.2 (fun x hx => ok x (List.mem_cons_of_mem _ hx)) k]
  | [], _ :: _, hk, _, _ => by simp at hk
  | _ :: _, [], hk, _, _ => by simp at hk
theorem nd_map {k : NK} {v : V} {x : PyData} (r : Rp M v x) : ∀ {es : List DE} {D : DD}, es.map (fun e => e.1.data) = D.map (·.1) → RpA M (es.map fun e => V.ref e.2.1) (D.map (·.1)) → RpA M (es.map fun e => e.2.2) (D.map (·.2)) → (∀ x ∈ es, noText x.1 = true ∧ x.1.depth ≤ 8) →
    (es.map fun e => if e.1 = k then (e.1, e.2.1, v) else e).map (fun e => e.1.data) = (D.map fun p => if nkOf p.1 = some k then (p.1, x) else p).map (·.1) ∧
    RpA M ((es.map fun e => if e.1 = k then (e.1, e.2.1, v) else e).map fun e => V.ref e.2.1) ((D.map fun p => if nkOf p.1 = some k then (p.1, x) else p).map (·.1)) ∧
    RpA M ((es.map fun e => if e.1 = k then (e.1, e.2.1, v) else e).map fun e => e.2.2) ((D.map fun p => if nkOf p.1 = some k then (p.1, x) else p).map (·.2))
  | [], [], _, _, _, _ => ⟨rfl, .nil, .nil⟩
  | e :: es, p :: D, hk, ka, va, ok => by
    simp only [List.map_cons, List.cons.injEq] at hk ka va
    have hn : nkOf p.1 = some e.1 := by rw [← hk.1]; exact nkOf_data (ok e List.mem_cons_self).1
    cases ka with
    | cons r1 ka => cases va with
      | cons r2 va =>
        obtain ⟨q1, q2, q3⟩ := nd_map r hk.2 ka va (fun x hx => ok x (List.mem_cons_of_mem _ hx))
        simp only [List.map_cons, hn, Option.some.injEq]
        by_cases h : e.1 = k
        · simp only [h, if_true]
          exact ⟨by rw [q1, ← hk.1, h], .cons r1 q2, .cons r q3⟩
        · simp only [h, if_false]
          exact ⟨by rw [q1, hk.1], .cons r1 q2, .cons r2 q3⟩
  | [], _ :: _, hk, _, _, _ => by simp at hk
  | _ :: _, [], hk, _, _, _ => by simp at hk
theorem RpA.snoc {vs : List V} {ds : List PyData} {v : V} {d : PyData} (h : RpA M vs ds) (r : Rp M v d) : RpA M (vs ++ [v]) (ds ++ [d]) := h.append (.one r)
theorem Nd.put {a b : Addr} {o o' : Obj} {es : List DE} {D : DD} {k : NK} {v : V} {x : PyData} {H' : Hp} (n : Nd H M a o es D) (rk : Rp M (.ref b) k.data) (r : Rp M v x) (h : H' a = some (DNo a o')) (d : DObj o' (eput es k b v)) : Nd H' M a o' (eput es k b v) (dput D k x) := by
  have hany := nd_any n.keys n.obj.ok k
  have := n.keys
  unfold eput dput at *
  rw [← hany]
  split
  · rename_i hh
    rw [if_pos hh] at d
    obtain ⟨q1, q2, q3⟩ := nd_map r n.keys n.ka n.va n.obj.ok (k := k)
    exact ⟨h, d, q1, q2, q3⟩
  · rename_i hh
    rw [if_neg hh] at d
    refine ⟨h, d, ?_, ?_, ?_⟩
    · simp only [List.map_append, List.map_cons, List.map_nil]
      rw [n.keys]
    · simp only [List.map_append, List.map_cons, List.map_nil]
      exact n.ka.snoc rk
    · simp only [List.map_append, List.map_cons, List.map_nil]
      exact n.va.snoc r
theorem dput_length (D : DD) (k : NK) (x : PyData) : (dput D k x).length ≤ D.length + 1 := by
  unfold dput
  split <;> simp
theorem Nd.len {a : Addr} {o : Obj} {es : List DE} {D : DD} (n : Nd H M a o es D) : es.length = D.length := by
  have := congrArg List.length n.keys
  simpa using this
theorem Nd.mono {M' H' : Hp} {a : Addr} {o : Obj} {es : List DE} {D : DD} (n : Nd H M a o es D) (s : Same M M') (h : H' a = H a) : Nd H' M' a o es D := ⟨h.trans n.at_, n.obj, n.keys, n.ka.mono s, n.va.mono s⟩
theorem DVc.nd {R : List RowP} {v : V} {x : DV} {D : DD} (sM : Same M H) (c : DVc R H M v x) (e : x.dd = some D) : ∃ a o es, v = .ref a ∧ Nd H M a o es D := by
  cases x with
  | d y =>
    cases y with
    | dict E =>
      cases e
      obtain ⟨a, o, es, rfl, n⟩ := Rp.nd c
      exact ⟨a, o, es, rfl, ⟨sM _ _ n.at_, n.obj, n.keys, n.ka, n.va⟩⟩
    | _ => cases e
  | oN E =>
    cases e
    obtain ⟨a, o, es, rfl, h, d, k1, k2, k3⟩ := c
    exact ⟨a, o, es, rfl, ⟨h, d, k1, k2, k3⟩⟩
  | row => cases e
  | own _ => cases e
  | oK _ => cases e
end
/-- a key that is a tuple -/
def tkOf : PyData → Option NK
  | .tuple l => match nkOf (.tuple l) with
    | some k => if k.depth ≤ 8 then some k else none
    | none => none
  | _ => none
theorem tkOf_eq {d : PyData} {k : NK} (h : tkOf d = some k) : (∃ l, d = .tuple l) ∧ k.data = d ∧ noText k = true ∧ k.depth ≤ 8 := by
  unfold tkOf at h
  split at h
  · rename_i l
    split at h
    · rename_i k' hk
      split at h
      · rename_i hd
        cases h
        obtain ⟨h1, h2⟩ := nkOf_eq hk
        exact ⟨⟨l, rfl⟩, h1, h2, hd⟩
      · cases h
    · cases h
  · cases h
section
variable {X : Cx} {z : Z} {K : PySem.W.Frag} {T : List Addr} {R : List RowP} {H0 M0 H M : Hp} {σ : L2.St} {δ : DS} {pos : Pos} {tg e : Expr} {te : TED}
theorem tk_ref {d : PyData} {k : NK} {v : V} (h : tkOf d = some k) (r : Rp M v d) : ∃ b, v = .ref b ∧ Rp M (.ref b) k.data := by
  obtain ⟨⟨l, rfl⟩, hd, _⟩ := tkOf_eq h
  cases r with
  | tup hM zz rr => exact ⟨_, rfl, by rw [hd]; exact .tup hM zz rr⟩
/-! #### walks -/
def diVals (te : TED) : TID := fun δ Q => te δ fun e δ' => ∃ D, e = .d (.dict D) ∧ Q (D.map (·.2)) δ'
def diItems (te : TED) : TID := fun δ Q => te δ fun e δ' => ∃ D, e = .d (.dict D) ∧ Q (D.map fun p => pairD p.1 p.2) δ'
theorem rep_vals {a : Addr} {o : Obj} {es : List DE} {D : DD} {M0 : Hp} (n : Nd M0 M0 a o es D) : RepIt (ItNv a o es) (D.map (·.2)) M0 := fun i H M s1 s2 => by
  have hl := n.len
  have hH := s2 _ _ (s1 _ _ n.at_)
  rw [List.length_map]
  refine ⟨fun hi => ⟨hH, by omega⟩, fun hi => ⟨hH, by omega⟩, fun x H' hi ⟨eH, en, ie, ex⟩ => ?_⟩
  subst ex
  have h1 : (es.map fun e => e.2.2)[i]? = some en.2.2 := by rw [List.getElem?_map, ie]; rfl
  obtain ⟨d, hd, r⟩ := n.va.getV h1
  exact ⟨d, hd, .inl ⟨eH, r.mono s1⟩⟩
theorem rep_items {a : Addr} {o : Obj} {es : List DE} {D : DD} {M0 : Hp} (n : Nd M0 M0 a o es D) : RepIt (ItNi a o es) (D.map fun p => pairD p.1 p.2) M0 := fun i H M s1 s2 => by
  have hl := n.len
  have hH := s2 _ _ (s1 _ _ n.at_)
  rw [List.length_map]
  refine ⟨fun hi => ⟨hH, by omega⟩, fun hi => ⟨hH, by omega⟩, fun x H' hi ⟨t, en, ie, ex, ht, eH⟩ => ?_⟩
  have h1 : (es.map fun e => e.2.2)[i]? = some en.2.2 := by rw [List.getElem?_map, ie]; rfl
  have h2 : (es.map fun e => V.ref e.2.1)[i]? = some (.ref en.2.1) := by rw [List.getElem?_map, ie]; rfl
  obtain ⟨d, hd, r⟩ := n.va.getV h1
  obtain ⟨c, hc, r2⟩ := n.ka.getV h2
  have hD : D[i]? = some (c, d) := by
    rw [List.getElem?_map] at hd hc
    cases q : D[i]? with
    | none => rw [q] at hd; cases hd
    | some p => rw [q] at hd hc; cases hd; cases hc; rfl
  refine ⟨pairD c d, by rw [List.getElem?_map, hD]; rfl, .inr ⟨t, [.ref en.2.1, en.2.2], [c, d], ex, ht, eH, two_le, .cons (r2.mono s1) (.cons (r.mono s1) .nil), rfl⟩⟩
theorem pid_values {a : Expr} {apos cpos : Pos} (h : PD X z a te) (hbase : attributeBase a "values" X.env (eval a X.env) = eval a X.env := by rfl) (hline : (apos.endLine == cpos.line) = true := by rfl) : PID X z tg (.Call (.Attribute a "values" apos) [] [] cpos) (diVals te) :=
  PI.imp (pi_valuesN h hbase hline) fun σ H R' ⟨R, H0, M0, M, δ, QD, hO, W, S, ht, hQ⟩ => ⟨R, H0, M0, M, δ, _, hO, W, S, ht, fun e δ' v H' M' q W' s' S' r => by
    obtain ⟨D, rfl, q⟩ := q
    obtain ⟨a, o, es, rfl, n⟩ := Rp.nd r
    exact ⟨a, o, es, rfl, W'.sub _ _ n.at_, n.obj, hQ _ _ _ _ _ q W' s' S' (rep_vals n)⟩⟩
theorem pid_items {a : Expr} {elts : List Expr} {kk : Nat} {tpos apos cpos : Pos} (h : PD X z a te) (hbase : attributeBase a "items" X.env (eval a X.env) = eval a X.env := by rfl) (hline : (apos.endLine == cpos.line) = true := by rfl) : PID X z (.Tuple elts kk tpos) (.Call (.Attribute a "items" apos) [] [] cpos) (diItems te) :=
  PI.imp (pi_itemsN h hbase hline) fun σ H R' ⟨R, H0, M0, M, δ, QD, hO, W, S, ht, hQ⟩ => ⟨R, H0, M0, M, δ, _, hO, W, S, ht, fun e δ' v H' M' q W' s' S' r => by
    obtain ⟨D, rfl, q⟩ := q
    obtain ⟨a, o, es, rfl, n⟩ := Rp.nd r
    exact ⟨a, o, es, rfl, W'.sub _ _ n.at_, n.obj, hQ _ _ _ _ _ q W' s' S' (rep_items n)⟩⟩
/-! #### d[k], k in d -/
def rGetN : R2 := fun x y H Q => ∃ a o es k b v, x = .ref a ∧ y = .ref b ∧ H a = some (DNo a o) ∧ DObj o es ∧ KeysAre H es ∧ Kv H k (.ref b) ∧ k.depth ≤ 8 ∧ eget es k = some v ∧ Q v H
def rInN (neg : Bool) : R2 := fun y x H Q => ∃ a o es k b, x = .ref a ∧ y = .ref b ∧ H a = some (DNo a o) ∧ DObj o es ∧ KeysAre H es ∧ Kv H k (.ref b) ∧ k.depth ≤ 8 ∧ Q (.bl (if neg then !(eget es k).isSome else (eget es k).isSome)) H
theorem op_inN0 (hu : X.A.units + 10 < cLine) : OpR X (compareOp .In) (rInN false) := by
  intro pins s σ H x y v u Q I rx ry ⟨a, o, es, k, b, e1, e2, h, d, ks, hk, hd, q⟩
  subst e1 e2
  cases rx
  cases ry
  exact dn_in hu I h d ks hk hd fun s' I' => ⟨.bl _, H, I', rfl, q⟩
theorem op_notInN0 (hu : X.A.units + 10 < cLine) : OpR X (compareOp .NotIn) (rInN true) := by
  intro pins s σ H x y v u Q I rx ry ⟨a, o, es, k, b, e1, e2, h, d, ks, hk, hd, q⟩
  subst e1 e2
  cases rx
  cases ry
  exact dn_notIn hu I h d ks hk hd fun s' I' => ⟨.bl _, H, I', rfl, q⟩
def gInN (neg : Bool) : DV → DV → (PyData → Prop) → Prop := fun x y Q => ∃ d k D, x = .d d ∧ tkOf d = some k ∧ y.dd = some D ∧ Q (.bool (if neg then !(dget D k).isSome else (dget D k).isSome))
theorem inN_read {neg : Bool} {x y : V} {Q : VK} (h : rOpD K T (gInN neg) x y H Q) : rInN neg x y H Q := by
  obtain ⟨R, M, dx, dy, QD, W, cx, cy, ⟨d, k, D, rfl, hk, hD, q⟩, hQ⟩ := h
  obtain ⟨a, o, es, rfl, n⟩ := cy.nd W.sub hD
  obtain ⟨b, rfl, r⟩ := tk_ref hk cx
  obtain ⟨_, _, hn, hd⟩ := tkOf_eq hk
  refine ⟨a, o, es, k, b, rfl, rfl, n.at_, n.obj, n.keysAre W.sub, r.kv W.sub hn, hd, ?_⟩
  have : (eget es k).isSome = (dget D k).isSome := by
    rcases nd_find n.keys n.va n.obj.ok k with ⟨h1, h2⟩ | ⟨v', v, h1, h2, _⟩
    · rw [h1, h2]; rfl
    · rw [h1, h2]; rfl
  rw [this]
  exact hQ _ _ H M q W (.bl _)
theorem op_inN (hu : X.A.units + 64 < cLine) : OpR X (compareOp .In) (rOpD X.K T (gInN false)) := OpR.imp (op_inN0 (by omega)) fun x y H Q h => inN_read h
theorem op_notInN (hu : X.A.units + 64 < cLine) : OpR X (compareOp .NotIn) (rOpD X.K T (gInN true)) := OpR.imp (op_notInN0 (by omega)) fun x y H Q h => inN_read h
def dDGet (ta tb : TED) : TED := fun δ Q => ta δ fun e1 δ1 => tb δ1 fun e2 δ2 => ∃ x D d k v, cont δ2 e1 = some x ∧ x.dd = some D ∧ e2 = .d d ∧ tkOf d = some k ∧ dget D k = some v ∧ Q (.d v) δ2
theorem pd_dget {a b : Expr} {ta tb : TED} (hu : X.A.units + 64 < cLine) (ha : PD X z a ta) (hb : PD X z b tb) (hs : NoSl b := by intros; rfl) : PD X z (.Subscript a b pos) (dDGet ta tb) := by
  refine ⟨fun pins s σ H Q I ⟨R, H0, M0, M, δ, QD, hO, W, S, ht, hQ⟩ => ?_⟩
  refine subD_of PySem.F.slot_dict_getitem.lookup hs (thn (ha.run pins s σ H _ I ⟨R, H0, M0, M, δ, _, hO, W, S, ht, fun e1 δ1 v1 H1 M1 q1 W1 s1 S1 r1 => (show (fun (x : V) (H1 : Hp) => ∃ δ1 e1 M1, Wd X.K z.T R H0 M0 H1 M1 ∧ Same M M1 ∧ Slots R H0 H1 M1 σ δ1 ∧ EVr σ M1 x e1 ∧
    tb δ1 fun e2 δ2 => ∃ x D d k v, cont δ2 e1 = some x ∧ x.dd = some D ∧ e2 = .d d ∧ tkOf d = some k ∧ dget D k = some v ∧ QD (.d v) δ2) v1 H1 from ⟨δ1, e1, M1, W1, s1, S1, r1, q1⟩)⟩) fun u s1 ⟨x, H1, I1, rx, δ1, e1, M1, W1, sm1, S1, r1, q1⟩ => ?_)
  refine thn (hb.run pins s1 σ H1 _ I1 ⟨R, H0, M0, M1, δ1, _, hO, W1, S1, q1, fun e2 δ2 v2 H2 M2 q2 W2 s2 S2 r2 => (show (fun (y : V) (H2 : Hp) => ∃ δ2 e2 M2, Wd X.K z.T R H0 M0 H2 M2 ∧ Same M1 M2 ∧ Slots R H0 H2 M2 σ δ2 ∧ EVr σ M2 y e2 ∧
    ∃ x D d k v, cont δ2 e1 = some x ∧ x.dd = some D ∧ e2 = .d d ∧ tkOf d = some k ∧ dget D k = some v ∧ QD (.d v) δ2) v2 H2 from ⟨δ2, e2, M2, W2, s2, S2, r2, q2⟩)⟩) fun iv s2 ⟨y, H2, I2, ry, δ2, e2, M2, W2, sm2, S2, r2, dx, D, d, k, v, hc, hD, ed, hk, hg, q⟩ => ?_
  subst ed
  obtain ⟨a, o, es, rfl, n⟩ := ((r1.mono sm2).cont S2 hc).nd W2.sub hD
  obtain ⟨b, rfl, r⟩ := tk_ref hk r2
  obtain ⟨_, _, hn, hd⟩ := tkOf_eq hk
  cases rx
  cases ry
  rcases nd_find n.keys n.va n.obj.ok k with ⟨h1, h2⟩ | ⟨v', w, h1, h2, rw'⟩
  · rw [hg] at h2; cases h2
  · rw [hg] at h2
    cases h2
    exact ⟨⟨o, (DNo.heap I2 n.at_).1, n.obj.ex.1⟩, dn_get (by omega) I2 n.at_ n.obj (n.keysAre W2.sub) (r.kv W2.sub hn) hd h1 fun w' s' I' rel => ⟨v', H2, I', rel, hQ _ _ _ _ _ q W2 (sm1.trans sm2) S2 rw'⟩⟩
end
end DL
/-! The data layer 11: dicts made and written. -/
namespace DcN
open PySem PySem.Spec PyProof.Rows DL
open L2 hiding St
section
variable {X : Cx}
/-- {k: v for target in iter if ..}, the keys tuples: D the new dict -/
def tDcN (wi : TI) (g : TG) (tt : TT) (tk tv : TE) (vs : List Nat) : TE := fun σ H Q => wi σ H fun J H1 => ∀ D o, H1 D = none → DObj o [] → ∃ W : Nat → Nat → Hp → Prop, (∃ m, W 0 m (upd H1 D (DNo D o))) ∧ ∀ i m H, W i m H →
  (J.stop i H ∧ Q (.ref D) H) ∨ (J.go i H ∧ ∃ Nx : Hp → Prop, (∀ H', Nx H' → ∃ m', m' < m ∧ W (i + 1) m' H') ∧ ∀ x H', J.yld i H x H' → g x (wipe σ vs) H' fun σ2 H2 => wipe σ2 vs = wipe σ vs ∧ tt σ2 H2 fun b H3 =>
    if b = true then tk σ2 H3 fun y H4 => tv σ2 H4 fun z H5 => ∃ o es k a, y = .ref a ∧ H5 D = some (DNo D o) ∧ DObj o es ∧ KeysAre H5 es ∧ Kv H5 k (.ref a) ∧ noText k = true ∧ k.depth ≤ 8 ∧ es.length < sizeLine ∧ ∀ o', DObj o' (eput es k a z) → Nx (upd H5 D (DNo D o')) else Nx H3)
theorem core {pins : List (Addr × Obj)} {s : Shared} {σ : L2.St} {H : Hp} {Q : VK} {kx vx tg iter : Expr} {ifs : List Expr} {scope : Scope} {own : List (Str × Nat)} {pos pos' : Pos} {wi : TI} {g : TG} {tt : TT} {tk tv : TE} {use : Option (Value → Sem Unit)} {Qf : Value → Shared → Prop}
    (hu : X.A.units + 13 < cLine) (hc : X.calm = true) (hN : X.N.Nodup) (I : Inv X pins σ H s) (hi : PI X tg iter wi) (ok : BlkOk X.N X.env.scope scope own)
    (hg : ∀ (s : Shared) (H : Hp) (C : Addr) (cl : List (Str × Addr)) (fp : List Addr), PG (X.blk s H scope (compEnvC scope cl C X.env) fp) tg g) (ht : ∀ (s : Shared) (H : Hp) (C : Addr) (cl : List (Str × Addr)) (fp : List Addr), PTs (X.blk s H scope (compEnvC scope cl C X.env) fp) ifs tt)
    (hk : ∀ (s : Shared) (H : Hp) (C : Addr) (cl : List (Str × Addr)) (fp : List Addr), PE (X.blk s H scope (compEnvC scope cl C X.env) fp) kx tk)
    (he : ∀ (s : Shared) (H : Hp) (C : Addr) (cl : List (Str × Addr)) (fp : List Addr), PE (X.blk s H scope (compEnvC scope cl C X.env) fp) vx tv) (hs : ∀ x, foldedSetIterable iter X.env x = pure x)
    (h : tDcN wi g tt tk tv (own.map (·.2)) σ H Q)
    (hRR : ∀ D C s' m H', Inv X pins σ H' s' → Q (.ref D) H' → s'.heap.Ns C m → FpOk X pins H' C → compPost (model X.prog X.w) X.A X.xe use Qf (.ref D) C (.ok .next) s') :
    wpAny (model X.prog X.w) X.A (comprehension (.DictComp kx vx [⟨tg, iter, ifs, 0⟩] scope pos) scope X.env pos' newDict false (eval iter X.env) use) Qf X.xe s := by
  have hfree : ∀ y ∈ scope.names, y.2 = .free → ∃ c, X.env.cells.lookup y.1 = some c := fun y hy e => by
    rcases ok.free y hy e with k | k
    · exact I.ok.has _ (.inl k)
    · exact I.ok.has _ (.inr k)
  refine wpAny_comprehension_free (use := use) rfl hs (closure_ok hfree) ok.kind (fun y hy e => by rw [ok.uniq y hy, e])
    (thn (hi.run pins s σ H _ I h) fun xv s1 hx => thn hx fun itv s2 h2 => ?_)
  obtain ⟨it, fp, tn, J, H2, e, I2, T, st2, f2, q⟩ := h2
  subst e
  refine wpAny_newObj_type (newEnv_comp ?_)
  generalize hD : s2.heap.objs.size = D
  have hDn : H2 D = none := I2.hok.fresh (Nat.le_of_eq hD)
  obtain ⟨W, ⟨m0, w0⟩, turn⟩ := q D emptyO hDn dobj_empty
  -- the new list
  generalize hs3 : ({ s2 with heap := s2.heap.push { cls := .type "dict", data := .dict #[] } } : Shared) = s3
  have I3 : Inv X pins σ (upd H2 D (DNo D emptyO)) s3 := by
    rw [← hs3, ← hD]
    exact dn_new I2
  have h3 : s3.heap = s2.heap.push { cls := .type "dict", data := .dict #[] } := by rw [← hs3]
  have sz : ∀ b ∈ fp, b < s2.heap.objs.size := fun b hb => by
    obtain ⟨o, e, _⟩ := T.obj _ _ st2 b hb
    exact Heap.lt_size e
  have f3 : ∀ b ∈ fp, FpOk X pins (upd H2 D (DNo D emptyO)) b ∧ b < s3.heap.objs.size := fun b hb => by
    have hlt := sz b hb
    refine ⟨⟨?_, (f2 b hb).2⟩, by rw [h3, Heap.size_push]; exact Nat.lt_succ_of_lt hlt⟩
    rw [upd_ne (by rw [← hD]; exact Nat.ne_of_lt hlt)]
    exact (f2 b hb).1
  have st3 : tn 0 s3.heap := T.keep _ _ _ st2 fun b _ o e => by rw [h3]; exact Heap.get?_push_of_some _ e
  have I4 := block_start I3 ok hN f3
  have pg := hg s3 (upd H2 D (DNo D emptyO)) s3.heap.objs.size (cellsFrom (s3.heap.objs.size + 1) scope.names (cloFrom X.env.cells scope.names [])) fp
  have pt := ht s3 (upd H2 D (DNo D emptyO)) s3.heap.objs.size (cellsFrom (s3.heap.objs.size + 1) scope.names (cloFrom X.env.cells scope.names [])) fp
  have pk := hk s3 (upd H2 D (DNo D emptyO)) s3.heap.objs.size (cellsFrom (s3.heap.objs.size + 1) scope.names (cloFrom X.env.cells scope.names [])) fp
  have pe := he s3 (upd H2 D (DNo D emptyO)) s3.heap.objs.size (cellsFrom (s3.heap.objs.size + 1) scope.names (cloFrom X.env.cells scope.names [])) fp
  show codeAny _ _ (.compStart (.DictComp kx vx [⟨tg, iter, ifs, 0⟩] scope pos) 0 (.ref it) (.ref D) (compEnvC scope (cellsFrom (s3.heap.objs.size + 1) scope.names (cloFrom X.env.cells scope.names [])) s3.heap.objs.size X.env)) (compPost (model X.prog X.w) X.A X.xe use Qf (.ref D) s3.heap.objs.size) { s3 with heap := pushCells (s3.heap.push { cls := .type "dict", data := .dict #[] }) scope.names }
  have nfp : ∀ b ∈ fp, (upd H2 D (DNo D emptyO)) b = none := fun b hb => (f3 b hb).1.1
  generalize hce : compEnvC scope (cellsFrom (s3.heap.objs.size + 1) scope.names (cloFrom X.env.cells scope.names [])) s3.heap.objs.size X.env = ce at I4 pg pt pk pe ⊢
  have cL : ce.locals = s3.heap.objs.size := by subst hce; rfl
  generalize hH3 : upd H2 D (DNo D emptyO) = H3 at I3 I4 pg pt pk pe w0 nfp f3
  generalize hs4 : ({ s3 with heap := pushCells (s3.heap.push { cls := .type "dict", data := .dict #[] }) scope.names } : Shared) = s4 at I4 ⊢
  have st4 : tn 0 s4.heap := T.keep _ _ _ st3 fun b _ o e => by rw [← hs4]; exact pushCells_keeps _ _ _ _ (Heap.get?_push_of_some _ e)
  have stat : ∀ {σ' : L2.St} {H' : Hp} {s' : Shared}, Inv (X.blk s3 H3 scope ce fp) [] σ' H' s' → (∀ b ∈ fp, H' b = none) → ∀ b ∈ fp, FpOk (X.blk s3 H3 scope ce fp) [] H' b := fun {σ' H' s'} I' hn b hb =>
    ⟨hn b hb, (I'.ok.exf b hb).1, I'.ok.exfs b hb, .inl hb, fun x c e => (I'.ok.exf b hb).2 x c e, fun p hp => absurd (show p ∈ ([] : List (Addr × Obj)) ++ [] from hp) (by simp)⟩
  have loop : codeAny (model X.prog X.w) X.A (.compLoop (.DictComp kx vx [⟨tg, iter, ifs, 0⟩] scope pos) 0 (.ref it) (.ref D) ce) (compPost (model X.prog X.w) X.A X.xe use Qf (.ref D) s3.heap.objs.size) s4 := by
    refine compLoop_anyD (fun n s' => ∃ i H', Inv (X.blk s3 H3 scope ce fp) [] (wipe σ (own.map (·.2))) H' s' ∧ tn i s'.heap ∧ (∀ b ∈ fp, H' b = none) ∧ W i n H') ?_ m0 ⟨0, H3, I4, st4, nfp, w0⟩
    rintro n s5 ⟨i, H5, I5, st5, n5, w5⟩
    rcases turn i n H5 w5 with ⟨stop, qq⟩ | ⟨go, Nx, hNx, step⟩
    · have td := T.done (X.blk s3 H3 scope ce fp) rfl rfl rfl hc i [] s5 _ H5 (fun _ _ => False) I5 (stat I5 n5) st5 stop
      refine thnF td fun r s6 ⟨hr, I6⟩ => ?_
      subst hr
      -- back in the def's context
      have I7 : Inv X pins σ H5 s6 := I3.call' (ch := fp) I6.os I6.base I6.hok I6.bare fun b hb => ⟨(f3 b hb).1.2.2.2.1, (f3 b hb).1.2.1, (f3 b hb).1.2.2.2.2.1, (f3 b hb).1.2.2.2.2.2⟩
      have nC : H5 s3.heap.objs.size = none := by
        have z : H5 ce.locals = none := I6.free
        rw [cL] at z
        exact z
      obtain ⟨m, hn, _⟩ := I6.loc
      have hn : s6.heap.Ns ce.locals m := hn
      rw [cL] at hn
      exact hRR D s3.heap.objs.size s6 m H5 I7 qq hn (I3.fpOk (Nat.le_refl _) nC)
    · have ti := T.item (X.blk s3 H3 scope ce fp) rfl rfl rfl hc i [] s5 _ H5 (fun _ _ => False) I5 (stat I5 n5) st5 go
      refine thnF ti fun r s6 ⟨u, hr, h6⟩ => ?_
      subst hr
      refine thnF h6 fun _ s7 ⟨x, H7, I7, r7, y7, st7, n7⟩ => ?_
      have I7' := I7.pinned (stat I7 n7) (T.obj _ _ st7)
      refine thnF (pg.run _ s7 _ H7 x u _ I7' r7 (step x H7 y7)) fun _ s8 ⟨σ8, H8, I8, hw8, q8⟩ => ?_
      refine thnF (pt.run _ s8 σ8 H8 _ I8 q8) fun b s9 ⟨H9, I9, q9⟩ => ?_
      -- the turn's end
      have fin : ∀ {s' : Shared} {H' : Hp}, Inv (X.blk s3 H3 scope ce fp) ([] ++ pinsAt fp s7.heap) σ8 H' s' → Nx H' → ∃ m, m < n ∧ ∃ i H', Inv (X.blk s3 H3 scope ce fp) [] (wipe σ (own.map (·.2))) H' s' ∧ tn i s'.heap ∧ (∀ b ∈ fp, H' b = none) ∧ W i m H' := fun {s' H'} I' nx => by
        obtain ⟨m', hm, w'⟩ := hNx H' nx
        have pin' : ∀ b ∈ fp, ∀ o, s7.heap.get? b = some o → s'.heap.get? b = some o ∧ H' b = none := fun b hb o e =>
          let z := I'.pin (b, o) (List.mem_append_right _ (List.mem_append_right _ (mem_pinsAt hb e)))
          ⟨z.1, z.2.1⟩
        have hl : (wipe σ (own.map (·.2))).length = σ8.length := by rw [← hw8, wipe_length]
        refine ⟨m', hm, i + 1, H', (I'.unpinned (pins := [])).weak hl (fun j v e => ?_), T.keep _ _ _ st7 fun b hb o e => (pin' b hb o e).1, fun b hb => ?_, w'⟩
        · rw [← hw8] at e
          exact (wipe_some e).1
        · obtain ⟨o, e, _⟩ := T.obj _ _ st7 b hb
          exact (pin' b hb o e).2
      cases b with
      | false =>
        simp only [Bool.false_eq_true, if_false] at q9 ⊢
        exact fin I9 q9
      | true =>
        simp only [if_true] at q9 ⊢
        refine thnF (pk.run _ s9 σ8 H9 _ I9 q9) fun z s10 ⟨yk, H10, I10, r10, q10⟩ => ?_
        refine thnF (pe.run _ s10 σ8 H10 _ I10 q10) fun z2 s11 ⟨yv, H11, I11, r11, o, es, k, b, ek, hD11, dd, ks, kv, kn, kd, hz11, nx⟩ => ?_
        subst ek
        cases r10
        exact dn_dictSet (X := X.blk s3 H3 scope ce fp) (show X.A.units + 10 < cLine by omega) I11 hD11 dd ks kv kn kd hz11 r11 fun o' s12 hd' I12 => fin I12 (nx o' hd')
  exact codeAny_compStart_dict loop (T.self X.A 0 _ _ _ st4 loop)
theorem pe_dc {kx vx tg iter : Expr} {ifs : List Expr} {scope : Scope} {own : List (Str × Nat)} {pos : Pos} {wi : TI} {g : TG} {tt : TT} {tk tv : TE} (hu : X.A.units + 64 < cLine) (hc : X.calm = true) (hN : X.N.Nodup) (hi : PI X tg iter wi) (ok : BlkOk X.N X.env.scope scope own)
    (hg : ∀ (s : Shared) (H : Hp) (C : Addr) (cl : List (Str × Addr)) (fp : List Addr), PG (X.blk s H scope (compEnvC scope cl C X.env) fp) tg g) (ht : ∀ (s : Shared) (H : Hp) (C : Addr) (cl : List (Str × Addr)) (fp : List Addr), PTs (X.blk s H scope (compEnvC scope cl C X.env) fp) ifs tt)
    (hk : ∀ (s : Shared) (H : Hp) (C : Addr) (cl : List (Str × Addr)) (fp : List Addr), PE (X.blk s H scope (compEnvC scope cl C X.env) fp) kx tk)
    (he : ∀ (s : Shared) (H : Hp) (C : Addr) (cl : List (Str × Addr)) (fp : List Addr), PE (X.blk s H scope (compEnvC scope cl C X.env) fp) vx tv) (hs : ∀ x, foldedSetIterable iter X.env x = pure x := by intro _; rfl) :
    PE X (.DictComp kx vx [⟨tg, iter, ifs, 0⟩] scope pos) (tDcN wi g tt tk tv (own.map (·.2))) := by
  refine ⟨fun pins s σ H Q I h => ?_⟩
  rw [arm_eval_DictComp]
  refine core (by omega) hc hN I hi ok hg ht hk he hs h fun D C s' m H' I' q hn f => ⟨m, hn, fun h'' sb => ?_⟩
  obtain ⟨f0, f1, f2, f3, f4, f5⟩ := f
  exact ⟨.ref D, H', I'.turned (t' := s'.toks) (fun b o hb e => (sb.2 b hb).trans e) f0 f1 f3 f4 f5, rfl, q⟩
theorem ps_set {i : Nat} {y : Str} {py : Pos} {kx vx tg iter : Expr} {ifs : List Expr} {scope : Scope} {own : List (Str × Nat)} {pos spos : Pos} {wi : TI} {g : TG} {tt : TT} {tk tv : TE} (hu : X.A.units + 64 < cLine) (hc : X.calm = true) (hN : X.N.Nodup) (hy : X.N[i]? = some y) (hyl : X.env.scope.names.lookup y = some .local)
    (hsw : swapsWith (.DictComp kx vx [⟨tg, iter, ifs, 0⟩] scope pos) (some (.Name y py)) spos.line X.env = pure true) (hi : PI X tg iter wi) (ok : BlkOk X.N X.env.scope scope own)
    (hg : ∀ (s : Shared) (H : Hp) (C : Addr) (cl : List (Str × Addr)) (fp : List Addr), PG (X.blk s H scope (compEnvC scope cl C X.env) fp) tg g) (ht : ∀ (s : Shared) (H : Hp) (C : Addr) (cl : List (Str × Addr)) (fp : List Addr), PTs (X.blk s H scope (compEnvC scope cl C X.env) fp) ifs tt)
    (hk : ∀ (s : Shared) (H : Hp) (C : Addr) (cl : List (Str × Addr)) (fp : List Addr), PE (X.blk s H scope (compEnvC scope cl C X.env) fp) kx tk)
    (he : ∀ (s : Shared) (H : Hp) (C : Addr) (cl : List (Str × Addr)) (fp : List Addr), PE (X.blk s H scope (compEnvC scope cl C X.env) fp) vx tv) (hs : ∀ x, foldedSetIterable iter X.env x = pure x := by intro _; rfl) :
    PS X (.Assign [.Name y py] (.DictComp kx vx [⟨tg, iter, ifs, 0⟩] scope pos) spos) (tAsg (tDcN wi g tt tk tv (own.map (·.2))) (gName i)) := by
  refine ⟨fun pins s σ H D I h => ?_⟩
  rw [exec_Assign_Name_used _ _ _ _ hsw]
  refine wpAny_bind (wpAny_standAt (wpAny_bind ?_))
  show wpAny _ X.A (do let _ ← comprehension (.DictComp kx vx [⟨tg, iter, ifs, 0⟩] scope pos) scope X.env (firstIterPos [⟨tg, iter, ifs, 0⟩] pos) newDict false (eval iter X.env) (some (assign (.Name y py) X.env))) _ _ s
  have h : tDcN wi g tt tk tv (own.map (·.2)) σ H (fun x H1 => gName i x σ H1 D.nx) := h
  refine wpAny_bind (thn (core (Qf := fun _ s' => SP X pins D .next s') (by omega) hc hN I hi ok hg ht hk he hs h fun L C s' m H' I' q hn f => ?_) fun _ s' hq => wpAny_pure (wpAny_pure hq))
  show wpAny _ _ (assign (.Name y py) X.env (.ref L)) _ _ _
  refine wpAny_assign_Name (store_ok2 (v := V.ref L) I' hN hy (.inl hyl) rfl (fun s2 I2 ⟨a, sb, ha⟩ => ?_) (.inr hyl))
  obtain ⟨f0, f1, f2, f3, f4, f5⟩ := f
  have haC : C ≠ a := by
    rcases ha with z | z
    · rw [z]; exact f1
    · exact fun e => f4 y a z e.symm
  exact ⟨m, hn.sameBut sb haC, fun h3 sb3 => ⟨_, H', I2.turned (t' := s2.toks) (fun b o hb e => (sb3.2 b hb).trans e) f0 f1 f3 f4 f5, q⟩⟩
theorem sw_true {kx vx : Expr} {gs : List Comprehension} {scope : Scope} {pos py : Pos} {y : Str} {l : Nat} {env : Env} (hk : env.scope.kind = .function) (hy : env.scope.names.lookup y = some .local) (hl : (py.line == pos.line) = true)
    (ha : (scope.names.any fun (n, k) => n == y && (k == .local || k == .cell)) = false) : swapsWith (.DictComp kx vx gs scope pos) (some (.Name y py)) l env = pure true := by
  have ky : env.kindOf y = some .local := hy
  have hb : env.blockKind = .function := by unfold Env.blockKind; rw [hk]; rfl
  unfold swapsWith
  simp only [hb, ky, ha, Expr.pos, hl]
  rfl
end
end DcN
namespace DL
open PySem PySem.Spec L2
section
variable {X : Cx} {z : Z} {tg iter kx vx : Expr} {ifs : List Expr} {ti : TID} {g : TGD} {tt : TTD} {tk tv : TED} {pos : Pos} {vs : List Nat} {K : PySem.W.Frag} {R : List RowP} {H0 M0 H M : Hp} {σ : L2.St} {δ : DS}
/-- what a dict comprehension comes to: the dict so far, by the turn -/
def dcD (xs : List PyData) (δ1 : DS) (g : TGD) (tt : TTD) (tk tv : TED) (vs : List Nat) (Q : DD → Prop) : Prop :=
  ∃ I : Nat → DD → Prop, I 0 [] ∧ (∀ (k : Nat) (x : PyData) (D : DD), xs[k]? = some x → I k D → g x (hide δ1 vs) fun δ2 => tt δ2 fun b δ3 =>
    if b = true then tk δ3 fun e1 δ4 => tv δ4 fun e2 _ => ∃ d n y, e1 = .d d ∧ tkOf d = some n ∧ e2 = .d y ∧ D.length < sizeLine ∧ I (k + 1) (dput D n y) else I (k + 1) D) ∧ ∀ D, I xs.length D → Q D
theorem Nd.write_ne {a b : Addr} {o : Obj} {u : HO} {es : List DE} {D : DD} (n : Nd H M a o es D) : True := trivial
theorem dc_run {R : List RowP} {H0 M0 H1 M1 : Hp} {σ : L2.St} {δ1 : DS} {J : It} {xs : List PyData} {D : Addr} {o0 : Obj} {QL : DD → Prop} {Fin : Hp → Prop} (W1 : Wd K z.T R H0 M0 H1 M1) (S1 : Slots R H0 H1 M1 σ δ1) (rep : RepIt J xs M1) (hD : H1 D = none) (hd0 : DObj o0 [])
    (q : dcD xs δ1 g tt tk tv vs QL) (hF : ∀ (H M : Hp) (o : Obj) (es : List DE) (E : DD), Wd K z.T R H1 M1 H M → Nd H M D o es E → M D = none → QL E → Fin H) :
    ∃ W : Nat → Nat → Hp → Prop, (∃ m, W 0 m (upd H1 D (DNo D o0))) ∧ ∀ i m H, W i m H →
      (J.stop i H ∧ Fin H) ∨ (J.go i H ∧ ∃ Nx : Hp → Prop, (∀ H', Nx H' → ∃ m', m' < m ∧ W (i + 1) m' H') ∧ ∀ x H', J.yld i H x H' → liftG K z.nox vs g x (wipe σ vs) H' fun σ2 H2 => wipe σ2 vs = wipe σ vs ∧ liftT K z.nox tt σ2 H2 fun b H3 =>
        if b = true then liftE K z.nox tk σ2 H3 fun y H4 => liftE K z.nox tv σ2 H4 fun w H5 => ∃ o es k a, y = .ref a ∧ H5 D = some (DNo D o) ∧ DObj o es ∧ KeysAre H5 es ∧ Kv H5 k (.ref a) ∧ noText k = true ∧ k.depth ≤ 8 ∧ es.length < sizeLine ∧ ∀ o', DObj o' (eput es k a w) → Nx (upd H5 D (DNo D o')) else Nx H3) := by
  obtain ⟨I, h0, turn, fin⟩ := q
  have nt : ∀ o : Obj, ∀ ps, DNo D o ≠ .tbl ps := fun o ps e => by cases e
  refine ⟨fun i m H => m = xs.length - i ∧ i ≤ xs.length ∧ ∃ M o es E, Wd K z.T R H1 M1 H M ∧ Nd H M D o es E ∧ M D = none ∧ I i E,
    ⟨xs.length, by simp, Nat.zero_le _, M1, o0, [], [], W1.refl.lay hD, ⟨upd_same, hd0, rfl, .nil, .nil⟩, W1.newM hD, h0⟩, ?_⟩
  rintro i m H2 ⟨rfl, hle, M2, o, es, E, W2, n2, hM, i2⟩
  by_cases hlt : i < xs.length
  · refine .inr ⟨(rep i H2 M2 W2.m0 W2.sub).1 hlt, fun H => ∃ M o es E, Wd K z.T R H1 M1 H M ∧ Nd H M D o es E ∧ M D = none ∧ I (i + 1) E, fun H' h => ⟨xs.length - (i + 1), by omega, rfl, hlt, h⟩, fun x H3 y => ?_⟩
    obtain ⟨d, M3, e, W3, rd⟩ := yield_step rep W2 W2.m0 hlt y
    have n3 : Nd H3 M3 D o es E := n2.mono W3.m0 (W2.own_keep W3 n2.at_ (nt o) hD)
    have m3 : M3 D = none := W3.own_M n2.at_ hM
    have W3' := W2.trans W3
    have S3 : Slots R H3 H3 M3 (wipe σ vs) (hide δ1 vs) := (S1.ext W1 W3').hide vs
    refine ⟨R, H3, M3, M3, hide δ1 vs, d, _, W3'.refl, S3, rd, turn i d E e i2, fun δ2 σ2 q2 S2 bt => ⟨wipe_eq bt, ?_⟩⟩
    refine ⟨R, H3, M3, M3, δ2, _, Out.nox, W3'.refl, S2, q2, fun b δ3 H4 M4 q4 W4 s4 S4 => ?_⟩
    cases b with
    | true =>
      rw [if_pos rfl] at q4 ⊢
      refine ⟨R, H3, M3, M4, δ3, _, Out.nox, W4, S4, q4, fun e1 δ5 v1 H5 M5 q5 W5 s5 S5 r5 => ?_⟩
      refine ⟨R, H3, M3, M5, δ5, _, Out.nox, W5, S5, q5, fun e2 δ6 v2 H6 M6 q6 W6 s6 S6 r6 => ?_⟩
      obtain ⟨dk, nk, yd, rfl, hk, rfl, hz, i6⟩ := q6
      have n6 : Nd H6 M6 D o es E := n3.mono W6.m0 (W3'.own_keep W6 n3.at_ (nt o) hD)
      have m6 : M6 D = none := W6.own_M n3.at_ m3
      obtain ⟨b, rfl, rb⟩ := tk_ref hk (r5.mono s6)
      obtain ⟨_, _, hn, hdp⟩ := tkOf_eq hk
      refine ⟨o, es, nk, b, rfl, n6.at_, n6.obj, n6.keysAre W6.sub, rb.kv W6.sub hn, hn, hdp, by rw [n6.len]; exact hz, fun o' ho' => ?_⟩
      exact ⟨M6, o', _, _, (W3'.trans W6).write n6.at_ hD m6 (nt o), n6.put rb r6 upd_same ho', m6, i6⟩
    | false =>
      rw [if_neg Bool.false_ne_true] at q4 ⊢
      exact ⟨M4, o, es, E, W3'.trans W4, n3.mono W4.m0 (W3'.own_keep W4 n3.at_ (nt o) hD), W4.own_M n3.at_ m3, q4⟩
  · have e : i = xs.length := by omega
    subst e
    exact .inl ⟨(rep _ H2 M2 W2.m0 W2.sub).2.1 (Nat.le_refl _), hF H2 M2 o es E W2 n2 hM (fin E i2)⟩
variable {scope : Scope} {own : List (Str × Nat)}
theorem Nd.share {T : List Addr} {a : Addr} {o : Obj} {es : List DE} {D : DD} (n : Nd H M a o es D) (W : Wd K T R H0 M0 H M) (hn : H0 a = none) (hM : M a = none) : Wd K T R H0 M0 H (upd M a (DNo a o)) ∧ Rp (upd M a (DNo a o)) (.ref a) (.dict D) :=
  ⟨W.share n.at_ hn hM trivial, .dN upd_same n.obj n.keys (n.ka.mono (same_upd hM)) (n.va.mono (same_upd hM))⟩
def dDc (ti : TID) (g : TGD) (tt : TTD) (tk tv : TED) (vs : List Nat) : TED := fun δ Q => ti δ fun xs δ1 => dcD xs δ1 g tt tk tv vs fun D => Q (.d (.dict D)) δ1
theorem psd_setDc {i : Nat} {y : Str} {py spos : Pos} (hu : X.A.units + 64 < cLine) (hc : X.calm = true) (hN : X.N.Nodup) (hy : X.N[i]? = some y) (hyl : X.env.scope.names.lookup y = some .local)
    (hsw : swapsWith (.DictComp kx vx [⟨tg, iter, ifs, 0⟩] scope pos) (some (.Name y py)) spos.line X.env = pure true) (hi : PID X z tg iter ti) (ok : BlkOk X.N X.env.scope scope own)
    (hg : ∀ (s : Shared) (H : Hp) (C : Addr) (cl : List (Str × Addr)) (fp : List Addr), PGD (X.blk s H scope (compEnvC scope cl C X.env) fp) z.nox (own.map (·.2)) tg g)
    (ht : ∀ (s : Shared) (H : Hp) (C : Addr) (cl : List (Str × Addr)) (fp : List Addr), PTsD (X.blk s H scope (compEnvC scope cl C X.env) fp) z.nox ifs tt)
    (hk : ∀ (s : Shared) (H : Hp) (C : Addr) (cl : List (Str × Addr)) (fp : List Addr), PD (X.blk s H scope (compEnvC scope cl C X.env) fp) z.nox kx tk)
    (he : ∀ (s : Shared) (H : Hp) (C : Addr) (cl : List (Str × Addr)) (fp : List Addr), PD (X.blk s H scope (compEnvC scope cl C X.env) fp) z.nox vx tv) (hs : ∀ x, foldedSetIterable iter X.env x = pure x := by intro _; rfl) :
    PSD X z (.Assign [.Name y py] (.DictComp kx vx [⟨tg, iter, ifs, 0⟩] scope pos) spos) (dAsg (dDc ti g tt tk tv (own.map (·.2))) (gdName i)) :=
  PS.imp (DcN.ps_set hu hc hN hy hyl hsw hi ok hg ht hk he hs) fun D σ H ⟨R, H0, M0, Mb, M, δ, ED, hO, W, sb, S, ht, hD⟩ => ⟨R, H0, M0, M, δ, _, hO, W, S, ht, fun xs δ1 J H1 M1 q W1 s1 S1 rep L o0 hL hd0 =>
    dc_run W1 S1 rep hL hd0 q fun H2 M2 o es E W2 n hM qa => by
      obtain ⟨W3, rr⟩ := n.share W2 hL hM
      obtain ⟨x, e, qa⟩ := qa
      cases e
      exact hD.nx _ _ _ _ qa (W1.trans W3) ((sb.trans s1).trans W3.m0) ((S1.ext W1 W3).set i rr)⟩
def dDcOwn (i : Nat) (ti : TID) (g : TGD) (tt : TTD) (tk tv : TED) (vs : List Nat) : TSD := fun E δ => ti δ fun xs δ1 => dcD xs δ1 g tt tk tv vs fun D => E.nx (δ1.set i (some (.oN D)))
theorem psd_setDcOwn {i : Nat} {y : Str} {py spos : Pos} (hu : X.A.units + 64 < cLine) (hc : X.calm = true) (hN : X.N.Nodup) (hy : X.N[i]? = some y) (hyl : X.env.scope.names.lookup y = some .local)
    (hsw : swapsWith (.DictComp kx vx [⟨tg, iter, ifs, 0⟩] scope pos) (some (.Name y py)) spos.line X.env = pure true) (hi : PID X z tg iter ti) (ok : BlkOk X.N X.env.scope scope own)
    (hg : ∀ (s : Shared) (H : Hp) (C : Addr) (cl : List (Str × Addr)) (fp : List Addr), PGD (X.blk s H scope (compEnvC scope cl C X.env) fp) z.nox (own.map (·.2)) tg g)
    (ht : ∀ (s : Shared) (H : Hp) (C : Addr) (cl : List (Str × Addr)) (fp : List Addr), PTsD (X.blk s H scope (compEnvC scope cl C X.env) fp) z.nox ifs tt)
    (hk : ∀ (s : Shared) (H : Hp) (C : Addr) (cl : List (Str × Addr)) (fp : List Addr), PD (X.blk s H scope (compEnvC scope cl C X.env) fp) z.nox kx tk)
    (he : ∀ (s : Shared) (H : Hp) (C : Addr) (cl : List (Str × Addr)) (fp : List Addr), PD (X.blk s H scope (compEnvC scope cl C X.env) fp) z.nox vx tv) (hs : ∀ x, foldedSetIterable iter X.env x = pure x := by intro _; rfl) :
    PSD X z (.Assign [.Name y py] (.DictComp kx vx [⟨tg, iter, ifs, 0⟩] scope pos) spos) (dDcOwn i ti g tt tk tv (own.map (·.2))) :=
  PS.imp (DcN.ps_set hu hc hN hy hyl hsw hi ok hg ht hk he hs) fun D σ H ⟨R, H0, M0, Mb, M, δ, ED, hO, W, sb, S, ht, hD⟩ => ⟨R, H0, M0, M, δ, _, hO, W, S, ht, fun xs δ1 J H1 M1 q W1 s1 S1 rep L o0 hL hd0 =>
    dc_run W1 S1 rep hL hd0 q fun H2 M2 o es E W2 n hM qa =>
      hD.nx _ _ _ _ qa (W1.trans W2) ((sb.trans s1).trans W2.m0) ((S1.ext W1 W2).setOwn i (x := .oN E) rfl ⟨L, o, es, rfl, n.at_, n.obj, n.keys, n.ka, n.va⟩ (W1.new hL) hM fun j y e o e2 => S1.fresh hL j y e o e2)⟩
/-! ### written -/
theorem Slots.own_nd {i : Nat} {D : DD} (S : Slots R H0 H M σ δ) (e : δ[i]? = some (some (.oN D))) : ∃ a o es, σ[i]? = some (some (.ref a)) ∧ Nd H M a o es D ∧ H0 a = none ∧ M a = none := by
  obtain ⟨v, e1, ⟨a, o, es, rfl, h, d, k1, k2, k3⟩, ow⟩ := S.at_ i _ e
  obtain ⟨a', ea, n, hM⟩ := ow rfl
  cases ea
  exact ⟨a, o, es, e1, ⟨h, d, k1, k2, k3⟩, n, hM⟩
theorem ownN_put {T : List Addr} {i : Nat} {a : Addr} {o o' : Obj} {es es' : List DE} {D D' : DD} (W : Wd K T R H0 M0 H M) (S : Slots R H0 H M σ δ) (e : δ[i]? = some (some (.oN D))) (hσ : σ[i]? = some (some (.ref a))) (n : Nd H M a o es D) (h0 : H0 a = none) (hM : M a = none) (n' : Nd (upd H a (DNo a o')) M a o' es' D') :
    Wd K T R H0 M0 (upd H a (DNo a o')) M ∧ Slots R H0 (upd H a (DNo a o')) M σ (δ.set i (some (.oN D'))) :=
  ⟨W.write n.at_ h0 hM (fun ps q => by cases q), S.write e rfl hσ rfl ⟨a, o', es', rfl, n'.at_, n'.obj, n'.keys, n'.ka, n'.va⟩⟩
/-- d[k] = v, d one's own -/
def dDPut (i : Nat) (tk tv : TED) : TSD := fun E δ => tv δ fun ev δ1 => (∃ D, look δ1 i = some (.oN D)) ∧ tk δ1 fun ek δ2 => ∃ D d k x y, look δ2 i = some (.oN D) ∧ ek = .d d ∧ tkOf d = some k ∧ cont δ2 ev = some y ∧ y = .d x ∧ D.length < sizeLine ∧ E.nx (δ2.set i (some (.oN (dput D k x))))
theorem psd_dput {i : Nat} {o a v : Expr} {tk tv : TED} {tpos : Pos} (hu : X.A.units + 64 < cLine) (ho : PE X o (tVar i)) (hk : PD X z a tk) (hv : PD X z v tv) (hs : swapsWith v (some (.Subscript o a tpos)) pos.line X.env = pure false := by rfl) :
    PSD X z (.Assign [.Subscript o a tpos] v pos) (dDPut i tk tv) := by
  refine ⟨fun pins s σ H D I ⟨R, H0, M0, Mb, M, δ, ED, hO, W, sb, S, ht, hD⟩ => ?_⟩
  refine wpAny_Assign_Subscript (thn (hv.run pins s σ H (fun x H1 => ∃ e1 δ1 M1, Wd X.K z.T R H0 M0 H1 M1 ∧ Same M M1 ∧ Slots R H0 H1 M1 σ δ1 ∧ EVr σ M1 x e1 ∧ (∃ D, look δ1 i = some (.oN D)) ∧
    tk δ1 fun ek δ2 => ∃ D d k x y, look δ2 i = some (.oN D) ∧ ek = .d d ∧ tkOf d = some k ∧ cont δ2 e1 = some y ∧ y = .d x ∧ D.length < sizeLine ∧ ED.nx (δ2.set i (some (.oN (dput D k x))))) I
      ⟨R, H0, M0, M, δ, _, hO, W, S, ht, fun e1 δ1 v1 H1 M1 q1 W1 s1 S1 r1 => ⟨e1, δ1, M1, W1, s1, S1, r1, q1⟩⟩) fun r s1 ⟨x, H1, I1, rx, e1, δ1, M1, W1, sm1, S1, r1, ⟨D1, hD1⟩, q1⟩ => ?_) hs
  obtain ⟨p, o1, es1, hσ, n1, _, _⟩ := S1.own_nd (look_some hD1)
  refine thn (ho.run pins s1 σ H1 (fun y H2 => y = .ref p ∧ H2 = H1) I1 ⟨_, hσ, rfl, rfl⟩) fun u s2 ⟨y, H2, I2, ry, ey, eH⟩ => ?_
  subst ey eH
  obtain rfl : u = Value.ref p := ry
  refine thn (hk.run pins s2 σ H2 (fun w H3 => ∃ e2 δ2 M2, Wd X.K z.T R H0 M0 H3 M2 ∧ Same M1 M2 ∧ Slots R H0 H3 M2 σ δ2 ∧ EVr σ M2 w e2 ∧
    ∃ D d k x y, look δ2 i = some (.oN D) ∧ e2 = .d d ∧ tkOf d = some k ∧ cont δ2 e1 = some y ∧ y = .d x ∧ D.length < sizeLine ∧ ED.nx (δ2.set i (some (.oN (dput D k x))))) I2
      ⟨R, H0, M0, M1, δ1, _, hO, W1, S1, q1, fun e2 δ2 v2 H3 M2 q2 W2 s2 S2 r2 => ⟨e2, δ2, M2, W2, s2, S2, r2, q2⟩⟩) fun iv s3 ⟨w, H3, I3, rw', e2, δ2, M2, W2, sm2, S2, r2, E2, d, k, xd, yd, hl, ed, hkk, hc, hy, hz, q⟩ => ?_
  subst ed hy
  obtain ⟨p', o2, es2, hσ2, n2, h0, hM⟩ := S2.own_nd (look_some hl)
  rw [hσ] at hσ2
  cases hσ2
  obtain ⟨b, rfl, rb⟩ := tk_ref hkk r2
  obtain ⟨_, _, hn, hd⟩ := tkOf_eq hkk
  have rv : Rp M2 x xd := (r1.mono sm2).cont S2 hc
  cases rw'
  refine dn_put (by omega) I3 n2.at_ n2.obj (n2.keysAre W2.sub) (rb.kv W2.sub hn) hn hd (by rw [n2.len]; exact hz) rx fun o' s' ho' I' => ?_
  obtain ⟨W3, S3⟩ := ownN_put W2 S2 (look_some hl) hσ n2 h0 hM (n2.put rb rv upd_same ho')
  exact ⟨σ, _, I', hD.nx _ σ _ M2 q W3 ((sb.trans sm1).trans sm2) S3⟩
/-- d[k] op= e, d one's own -/
def dDAug (i : Nat) (tk te : TED) (f : F2) : TSD := fun E δ => (∃ D, look δ i = some (.oN D)) ∧ tk δ fun ek δ1 => ∃ D1 d k a, look δ1 i = some (.oN D1) ∧ ek = .d d ∧ tkOf d = some k ∧ dget D1 k = some a ∧
  te δ1 fun e2 δ2 => ∃ D y b c, look δ2 i = some (.oN D) ∧ cont δ2 e2 = some y ∧ y.rd = some b ∧ f a b = some c ∧ D.length < sizeLine ∧ E.nx (δ2.set i (some (.oN (dput D k c))))
theorem psd_daug {i : Nat} {o a e : Expr} {tk te : TED} {op : Operator} {f : F2} {tpos : Pos} (hu : X.A.units + 64 < cLine) (ho : PE X o (tVar i)) (hk : PD X z a tk) (he : PD X z e te) (hp : OpR X (inplaceOp op) (rOpD X.K z.T (g2 f)))
    (ha : ∀ ov iv new, augStore a ov iv new = (do holding [new, ov, iv] (setItem ov iv new); release [new, ov, iv] []; pure .next) := by intros; rfl) : PSD X z (.AugAssign (.Subscript o a tpos) op e pos) (dDAug i tk te f) := by
  refine ⟨fun pins s σ H D I ⟨R, H0, M0, Mb, M, δ, ED, hO, W, sb, S, ⟨⟨D0, hD0⟩, ht⟩, hD⟩ => ?_⟩
  obtain ⟨p, o0, es0, hσ, n0, _, _⟩ := S.own_nd (look_some hD0)
  refine wpAny_AugAssign_SubscriptAny (thn (ho.run pins s σ H (fun y H2 => y = .ref p ∧ H2 = H) I ⟨_, hσ, rfl, rfl⟩) fun u s1 ⟨y, H1, I1, ry, ey, eH⟩ => ?_) ha
  subst ey eH
  obtain rfl : u = Value.ref p := ry
  refine thn (hk.run pins s1 σ H1 (fun w H2 => ∃ e1 δ1 M1, Wd X.K z.T R H0 M0 H2 M1 ∧ Same M M1 ∧ Slots R H0 H2 M1 σ δ1 ∧ EVr σ M1 w e1 ∧ ∃ D1 d k a, look δ1 i = some (.oN D1) ∧ e1 = .d d ∧ tkOf d = some k ∧ dget D1 k = some a ∧
    te δ1 fun e2 δ2 => ∃ D y b c, look δ2 i = some (.oN D) ∧ cont δ2 e2 = some y ∧ y.rd = some b ∧ f a b = some c ∧ D.length < sizeLine ∧ ED.nx (δ2.set i (some (.oN (dput D k c))))) I1
      ⟨R, H0, M0, M, δ, _, hO, W, S, ht, fun e1 δ1 v1 H2 M1 q1 W1 s1 S1 r1 => ⟨e1, δ1, M1, W1, s1, S1, r1, q1⟩⟩) fun iv s2 ⟨w, H2, I2, rw', e1, δ1, M1, W1, sm1, S1, r1, D1, d, k, ad, hl1, ed, hkk, hg, q1⟩ => ?_
  subst ed
  obtain ⟨p1, o1, es1, hσ1, n1, _, _⟩ := S1.own_nd (look_some hl1)
  rw [hσ] at hσ1
  cases hσ1
  obtain ⟨b, rfl, rb⟩ := tk_ref hkk r1
  obtain ⟨_, _, hn, hd⟩ := tkOf_eq hkk
  cases rw'
  rcases nd_find n1.keys n1.va n1.obj.ok k with ⟨g1, g2'⟩ | ⟨v', wd, g1, g2', rg⟩
  · rw [hg] at g2'; cases g2'
  rw [hg] at g2'
  cases g2'
  refine dn_get (by omega) I2 n1.at_ n1.obj (n1.keysAre W1.sub) (rb.kv W1.sub hn) hd g1 fun old s3 I3 rold => ?_
  refine thn (he.run pins s3 σ H2 (fun w H3 => ∃ e2 δ2 M2, Wd X.K z.T R H0 M0 H3 M2 ∧ Same M1 M2 ∧ Slots R H0 H3 M2 σ δ2 ∧ EVr σ M2 w e2 ∧
    ∃ D y b c, look δ2 i = some (.oN D) ∧ cont δ2 e2 = some y ∧ y.rd = some b ∧ f ad b = some c ∧ D.length < sizeLine ∧ ED.nx (δ2.set i (some (.oN (dput D k c))))) I3
      ⟨R, H0, M0, M1, δ1, _, hO, W1, S1, q1, fun e2 δ2 v2 H3 M2 q2 W2 s2 S2 r2 => ⟨e2, δ2, M2, W2, s2, S2, r2, q2⟩⟩) fun v s4 ⟨w2, H3, I4, rw2, e2, δ2, M2, W2, sm2, S2, r2, E2, yd, bd, cd, hl2, hc2, hb2, hf, hz, q⟩ => ?_
  refine thn (hp pins s4 σ H3 v' w2 old v (fun x5 H5 => ∃ M5, Wd X.K z.T R H3 M2 H5 M5 ∧ Rp M5 x5 cd) I4 rold rw2 ⟨R, M2, .d ad, yd, fun u => u = cd, W2.refl, rg.mono sm2, r2.cont S2 hc2, ⟨ad, bd, cd, rfl, hb2, hf, rfl⟩, fun u5 v5 H5 M5 hu5 W5 r5 => ⟨M5, W5, by rw [← hu5]; exact r5⟩⟩) fun new s5 ⟨x5, H5, I5, r5, M5, W5, rp5⟩ => ?_
  have W5' := W2.trans W5
  have S5 := S2.ext W2 W5
  obtain ⟨p2, o2, es2, hσ2, n2, h0, hM⟩ := S5.own_nd (look_some hl2)
  rw [hσ] at hσ2
  cases hσ2
  have rb5 : Rp M5 (.ref b) k.data := rb.mono (sm2.trans W5.m0)
  refine dn_put (by omega) I5 n2.at_ n2.obj (n2.keysAre W5'.sub) (rb5.kv W5'.sub hn) hn hd (by rw [n2.len]; exact hz) r5 fun o' s' ho' I' => ?_
  obtain ⟨W6, S6⟩ := ownN_put W5' S5 (look_some hl2) hσ n2 h0 hM (n2.put rb5 rp5 upd_same ho')
  exact ⟨σ, _, I', hD.nx _ σ _ M5 q W6 ((sb.trans sm1).trans (sm2.trans W5.m0)) S6⟩
/-- return d, d one's own -/
def dRetOwnN (i : Nat) : TSD := fun E δ => ∃ D, look δ i = some (.oN D) ∧ E.rt (.dict D)
theorem psd_retOwnN {i : Nat} {e : Expr} (he : PE X e (tVar i)) : PSD X z (.Return (some e) pos) (dRetOwnN i) :=
  PS.imp (ps_ret he) fun D σ H ⟨R, H0, M0, Mb, M, δ, ED, hO, W, sb, S, ht, hD⟩ => by
    obtain ⟨E, hl, q⟩ := ht
    obtain ⟨a, o, es, hσ, n, h0, hM⟩ := S.own_nd (look_some hl)
    obtain ⟨W2, r⟩ := n.share W h0 hM
    exact ⟨_, hσ, hD.rt _ _ H _ q W2 r⟩
end
end DL
/-! The data layer 12: fresh things owned; dict(pairs); several names at once. -/
namespace DL
open PySem PySem.Spec L2
/-! ### dict(list of pairs) -/
abbrev E3 (p : DE) (q : NK × Addr × Value) : Prop := p.1 = q.1 ∧ p.2.1 = q.2.1 ∧ RelV p.2.2 q.2.2
theorem paired_stored {es : List DE} {xs : List (NK × Addr × Value)} (pr : Paired E3 es xs) (k : NK) (b : Addr) {v : V} {r : Value} (rv : RelV v r) : Paired E3 (eput es k b v) (storedH xs k b r) := by
  unfold eput storedH
  rw [any_find]
  rcases paired_find pr k with ⟨q1, q2⟩ | ⟨en, x, q1, q2, _⟩
  · rw [q1, q2]
    exact paired_snoc pr k b rv
  · rw [q1, q2]
    exact paired_map pr k rv
def eputs (es qs : List DE) : List DE := qs.foldl (fun acc q => eput acc q.1 q.2.1 q.2.2) es
theorem paired_storedAll {qs : List DE} {ps : List (NK × Addr × Value)} (h : Paired E3 qs ps) : ∀ {es : List DE} {xs : List (NK × Addr × Value)}, Paired E3 es xs → Paired E3 (eputs es qs) (storedAllH xs ps) := by
  induction h with
  | nil => intro es xs pr; exact pr
  | @cons q p qs ps h t ih =>
    intro es xs pr
    obtain ⟨e1, e2, e3⟩ := h
    show Paired E3 (eputs (eput es q.1 q.2.1 q.2.2) qs) (storedAllH (storedH xs p.1 p.2.1 p.2.2) ps)
    rw [e1, e2]
    exact ih (paired_stored pr p.1 p.2.1 e3)
theorem eputs_ok {qs : List DE} : ∀ {es : List DE}, (∀ x ∈ es, noText x.1 = true ∧ x.1.depth ≤ 8) → (∀ x ∈ qs, noText x.1 = true ∧ x.1.depth ≤ 8) → ∀ x ∈ eputs es qs, noText x.1 = true ∧ x.1.depth ≤ 8 := by
  induction qs with
  | nil => intro es ok _; exact ok
  | cons q qs ih =>
    intro es ok h
    have hq := h q List.mem_cons_self
    exact ih (eput_ok ok hq.1 hq.2) fun x hx => h x (List.mem_cons_of_mem _ hx)
theorem eputs_length {qs : List DE} : ∀ {es : List DE}, (eputs es qs).length ≤ es.length + qs.length := by
  induction qs with
  | nil => intro es; exact Nat.le_refl _
  | cons q qs ih =>
    intro es
    have h1 := ih (es := eput es q.1 q.2.1 q.2.2)
    have h2 := eput_length es q.1 q.2.1 q.2.2
    show (eputs (eput es q.1 q.2.1 q.2.2) qs).length ≤ _
    simp only [List.length_cons]
    omega
section
variable {X : Cx} {pins : List (Addr × Obj)} {σ : L2.St} {H : Hp} {s : Shared}
theorem pairs_at (I : Inv X pins σ H s) : ∀ {ts : List Addr} {qs : List DE}, Paired (fun t (q : DE) => H t = some (.tup [.ref q.2.1, q.2.2])) ts qs →
    ∃ xs : List (NK × Addr × Value), Paired E3 qs xs ∧ xs.length = ts.length ∧ ∀ (j : Nat) (x : NK × Addr × Value), xs[j]? = some x → ∃ t, ts[j]? = some t ∧ s.heap.IsTuple t #[.ref x.2.1, x.2.2]
  | _, _, .nil => ⟨[], .nil, rfl, fun j q e => by simp at e⟩
  | _, _, .cons (a := t) (b := q) h tl => by
    obtain ⟨xs, pr, hl, hp⟩ := pairs_at I tl
    obtain ⟨its, rv, ht, _⟩ := I.tuple (.of h)
    obtain ⟨u, y, ei, ru, ry⟩ := vals2 rv
    subst ei
    cases ru
    refine ⟨(q.1, q.2.1, y) :: xs, .cons ⟨rfl, rfl, ry⟩ pr, by simp [hl], fun j x e => ?_⟩
    cases j with
    | zero =>
      have e' : (q.1, q.2.1, y) = x := by simpa using e
      subst e'
      exact ⟨t, rfl, ht⟩
    | succ j =>
      obtain ⟨t', e1, e2⟩ := hp j x (by simpa using e)
      exact ⟨t', by simpa using e1, e2⟩
def rDictN : List V → Hp → VK → Prop := fun vs H Q => ∃ (a : Addr) (ts : List Addr) (qs : List DE), vs = [.ref a] ∧ H a = some (.lst (ts.map V.ref)) ∧ Paired (fun t (q : DE) => H t = some (.tup [.ref q.2.1, q.2.2])) ts qs ∧ KeysAre H qs ∧ (∀ q ∈ qs, noText q.1 = true ∧ q.1.depth ≤ 8) ∧
  ∀ d o', H d = none → DObj o' (eputs [] qs) → Q (.ref d) (upd H d (DNo d o'))
theorem call_dictN (hu : X.A.units + 64 < cLine) (hc : X.calm = true) : CallR X (.type "dict") rDictN := by
  intro pins s σ H vs us Q I r ⟨a, ts, qs, ev, ha, hp, ks, ok, q⟩
  subst ev
  rw [Vals.ref1 r]
  obtain ⟨its, rv, hl, hz⟩ := I.list (.of ha)
  obtain ⟨xs, pr, hxl, hat⟩ := pairs_at I hp
  have hlq : qs.length = ts.length := (Paired.length hp).symm
  have hits : its = ts.map Value.ref := refs_at rv
  subst hits
  have hsz : xs.length ≤ sizeLine := by rw [hxl]; simpa using hz
  obtain ⟨ob, n, ho, hcl, hd0, hdat⟩ := hl
  have hPI : PairItems s.heap (ts.map Value.ref).toArray (fun j => ts.getD j 0) (xs.map fun x => (Value.ref x.2.1, x.2.2)) := by
    refine ⟨by simp [hxl], fun j k v hj => ?_⟩
    rw [List.getElem?_map] at hj
    cases hx : xs[j]? with
    | none => rw [hx] at hj; cases hj
    | some x =>
      rw [hx] at hj
      cases hj
      obtain ⟨t, ht, hT⟩ := hat j x hx
      have hg : ts.getD j 0 = t := by rw [List.getD_eq_getElem?_getD, ht]; rfl
      simp only [hg]
      exact ⟨by simp [ht], .inl hT⟩
  have hPH : PairsHaveH (nestedKind X.prog X.w) (xs.map fun x => ((Value.ref x.2.1, x.2.2) : Value × Value)).length (PairRel (xs.map fun x => (Value.ref x.2.1, x.2.2))) xs := by
    refine ⟨by simp, fun i key v hi => ?_⟩
    have hi' : (xs.map fun x => ((Value.ref x.2.1, x.2.2) : Value × Value))[i]? = some (key, v) := hi
    rw [List.getElem?_map] at hi'
    cases hx : xs[i]? with
    | none => rw [hx] at hi'; cases hi'
    | some x =>
      rw [hx] at hi'
      cases hi'
      exact ⟨x.1, x.2.1, rfl, rfl⟩
  have hKS : KeysStay (nestedKind X.prog X.w) s.heap s.heap.objs.size [] xs := fun h' hk x hx => by
    obtain ⟨e, hm, e1, e2, _⟩ := paired_mem pr hx
    rw [← e1, ← e2]
    have his := Kv.is I (ks e hm) (u := .ref e.2.1) rfl
    exact ⟨NestedIs.at (fun b ob vs n hb _ => hk b ob (Nat.ne_of_lt (Heap.lt_size hb)) (by simp) hb) _ _ his, (ok e hm).2⟩
  refine call_dict_pairsH (knd := nestedKind X.prog X.w) (ps := xs) (PairArg.list a (ts.map Value.ref).toArray (fun j => ts.getD j 0) (xs.map fun x => (Value.ref x.2.1, x.2.2))) (I.ok.hd hc)
    (show X.A.in1.in1.units + 8 < cLine by show X.A.units + 1 + 1 + 8 < cLine; omega) ⟨⟨ob, n, ho, hcl, hd0, hdat⟩, hPI⟩ hPH hKS (by simpa using hsz) fun h' tk dd hk => ?_
  · obtain ⟨o', ents, ep, ho', hx, hdt, he, _, nd⟩ := dd
    have pr' : Paired E3 (eputs [] qs) (storedAllH [] xs) := paired_storedAll pr .nil
    have ok' := eputs_ok (es := []) (qs := qs) (fun x hx => by cases hx) ok
    have hlen := eputs_length (es := []) (qs := qs)
    have hdo : DObj o' (eputs [] qs) := ⟨hx, ⟨ents, ep, _, hdt, fun w' => by
      rw [he]
      refine List.map_congr_left fun x hm => ?_
      obtain ⟨e, hme, e1, _⟩ := paired_mem pr' hm
      show (⟨x.1.hash X.w, .ref x.2.1, x.2.2⟩ : DictEntry) = _
      rw [hash_any X.w w' (k := x.1) (by rw [← e1]; exact (ok' e hme).1)], pr', nd⟩, ok', by
        simp only [List.length_nil, Nat.zero_add] at hlen
        have : qs.length = xs.length := Paired.length pr
        omega⟩
    exact ⟨.ref s.heap.objs.size, upd H s.heap.objs.size (DNo s.heap.objs.size o'), I.laid (t' := tk) (fun b o e => hk b o (by simp) e) (Nat.le_refl _) (o := DNo s.heap.objs.size o') ⟨⟨ho', beq_eq_false_iff_ne.mpr (Nat.ne_of_gt I.big)⟩, ⟨_, ho'⟩, fun h1 h2 p k => ⟨k _ p.1, p.2⟩⟩, rfl, q _ o' (I.hok.fresh (Nat.le_refl _)) hdo⟩
end

/-! ### fresh things, owned -/
abbrev TFD := DS → (DV → DS → Prop) → Prop
def NoAl (σ : L2.St) (δ : DS) (a : Addr) : Prop := ∀ (j : Nat) (y : DV), δ[j]? = some (some y) → y.isOwn = true → σ[j]? ≠ some (some (.ref a))
def liftF (K : PySem.W.Frag) (z : Z) (t : TFD) : TE := fun σ H Q => ∃ (R : List RowP) (H0 M0 M : Hp) (δ : DS) (QD : DV → DS → Prop), Out K z R H0 M0 ∧ Wd K z.T R H0 M0 H M ∧ Slots R H0 H M σ δ ∧ t δ QD ∧
  ∀ (x : DV) (δ' : DS) (a : Addr) (H' M' : Hp), QD x δ' → x.isOwn = true → Wd K z.T R H0 M0 H' M' → Same M M' → Slots R H0 H' M' σ δ' → DVc R H' M' (.ref a) x → H0 a = none → M' a = none → NoAl σ δ' a → Q (.ref a) H'
abbrev PFD (X : Cx) (z : Z) (e : Expr) (t : TFD) : Prop := PE X e (liftF X.K z t)
section
variable {X : Cx} {z : Z} {e a b : Expr} {es : List Expr} {te ta tb : TED} {t : TAD} {pos : Pos} {K : PySem.W.Frag} {R : List RowP} {H0 M0 H M : Hp} {σ : L2.St} {δ : DS}
theorem fresh_lay (W : Wd K z.T R H0 M0 H M) (S : Slots R H0 H M σ δ) {p : Addr} {o : HO} (hp : H p = none) : Wd K z.T R H0 M0 (upd H p o) M ∧ Slots R H0 (upd H p o) M σ δ ∧ H0 p = none ∧ M p = none ∧ NoAl σ δ p := by
  have W2 : Wd K z.T R H M (upd H p o) M := W.refl.lay hp
  exact ⟨W.trans W2, S.ext W W2, W.new hp, W.newM hp, fun j y e ow => S.fresh hp j y e ow⟩
def fLst (t : TAD) : TFD := fun δ Q => t δ fun es δ' => ∃ xs, datas es = some xs ∧ xs.length ≤ sizeLine ∧ Q (.own xs) δ'
theorem pf_lst (h : PAD X z es t) : PFD X z (.List es pos) (fLst t) :=
  PE.imp (pe_lst h) fun σ H Q ⟨R, H0, M0, M, δ, QD, hO, W, S, ht, hQ⟩ => ⟨R, H0, M0, M, δ, _, hO, W, S, ht, fun es δ' vs H' M' q W' s' S' r => by
    obtain ⟨xs, d, z1, q⟩ := q
    have rr := r.datas d
    refine ⟨by rw [rr.length]; exact z1, fun p hp => ?_⟩
    obtain ⟨W2, S2, h0, hM, na⟩ := fresh_lay (o := .lst vs) W' S' hp
    exact hQ _ _ _ _ _ q rfl W2 s' S2 ⟨p, vs, rfl, upd_same, by rw [rr.length]; exact z1, rr⟩ h0 hM na⟩
def fLstRg (t : TRD) : TFD := fun δ Q => t δ fun a b δ' => RgOk a b ∧ Q (.own (rng a (b - a).toNat)) δ'
theorem pf_listRg {t : TRD} {p : Pos} (hc : X.calm = true) (hg : Gl X "list") (hm : X.mg "list" = none) (he : PRgD X z e t) (na : starEach [e] X.env = (false, eval e X.env) :: starEach [] X.env := by rfl) :
    PFD X z (.Call (.Name "list" p) [e] [] pos) (fLstRg t) :=
  PE.imp (pe_listRg hc hg hm he na) fun σ H Q ⟨R, H0, M0, M, δ, QD, hO, W, S, ht, hQ⟩ => ⟨R, H0, M0, M, δ, _, hO, W, S, ht, fun a b δ' H' M' q W' s' S' => by
    obtain ⟨ok, q⟩ := q
    refine ⟨ok, fun p hp => ?_⟩
    obtain ⟨W2, S2, h0, hM, na⟩ := fresh_lay (o := .lst (rgV a b)) W' S' hp
    have hz : (rgV a b).length ≤ sizeLine := by rw [(rgV_rep (M := M') a b).length, rng_length]; have := ok.2.2.2.2; have := sizeLine_eq; omega
    exact hQ _ _ _ _ _ q rfl W2 s' S2 ⟨p, _, rfl, upd_same, hz, rgV_rep a b⟩ h0 hM na⟩
/-- l * n, fresh -/
def fRep (ta tb : TED) : TFD := fun δ Q => ta δ fun e1 δ1 => tb δ1 fun e2 δ2 => ∃ l n, e1 = .d (.list l) ∧ e2 = .d (.int n) ∧ -(2 ^ 63) ≤ n ∧ n < 2 ^ 63 ∧ l.length * n.toNat ≤ sizeLine ∧ Q (.own (List.replicate n.toNat l).flatten) δ2
theorem pf_rep (ha : PD X z a ta) (hb : PD X z b tb) : PFD X z (.BinOp a .Mult b pos) (fRep ta tb) :=
  PE.imp (pe_op op_rep ha hb) fun σ H Q ⟨R, H0, M0, M, δ, QD, hO, W, S, ht, hQ⟩ => ⟨R, H0, M0, M, δ, _, hO, W, S, ht, fun e1 δ1 v1 H1 M1 q1 W1 s1 S1 r1 => ⟨R, H0, M0, M1, δ1, _, hO, W1, S1, q1, fun e2 δ2 v2 H2 M2 q2 W2 s2 S2 r2 => by
    obtain ⟨l, n, rfl, rfl, h1, h2, h3, q⟩ := q2
    obtain ⟨p, xs, rfl, hp, zz, rr⟩ := (Rv.d (r1.mono s2)).lst W2.sub
    refine ⟨p, n, xs, rfl, r2.int_eq, hp, h1, h2, by rw [rr.length]; exact h3, fun y hy => ?_⟩
    obtain ⟨W3, S3, h0, hM, na⟩ := fresh_lay (o := .lst (List.replicate n.toNat xs).flatten) W2 S2 hy
    exact hQ _ _ _ _ _ q rfl W3 (s1.trans s2) S3 ⟨y, _, rfl, upd_same, by rw [len_rep, rr.length]; exact h3, rr.rep _⟩ h0 hM na⟩⟩
def pairOf : PyData → Option (PyData × PyData)
  | .tuple [a, b] => some (a, b)
  | _ => none
def pairsOf : List PyData → Option DD
  | [] => some []
  | d :: r => match pairOf d, pairsOf r with
    | some p, some ps => if (tkOf p.1).isSome then some (p :: ps) else none
    | _, _ => none
def dputs (D : DD) (L : DD) : DD := L.foldl (fun D p => match tkOf p.1 with
  | some k => dput D k p.2
  | none => D) D
theorem pairs_read (sM : Same M H) : ∀ {vs : List V} {l : List PyData} {L : DD}, RpA M vs l → pairsOf l = some L → ∃ (ts : List Addr) (qs : List DE), vs = ts.map V.ref ∧ Paired (fun t (q : DE) => H t = some (.tup [.ref q.2.1, q.2.2])) ts qs ∧ KeysAre H qs ∧ (∀ q ∈ qs, noText q.1 = true ∧ q.1.depth ≤ 8) ∧
    ∀ (es : List DE) (D : DD) (a : Addr) (o o' : Obj), es.map (fun e => e.1.data) = D.map (·.1) → RpA M (es.map fun e => V.ref e.2.1) (D.map (·.1)) → RpA M (es.map fun e => e.2.2) (D.map (·.2)) → (∀ x ∈ es, noText x.1 = true ∧ x.1.depth ≤ 8) →
      (eputs es qs).map (fun e => e.1.data) = (dputs D L).map (·.1) ∧ RpA M ((eputs es qs).map fun e => V.ref e.2.1) ((dputs D L).map (·.1)) ∧ RpA M ((eputs es qs).map fun e => e.2.2) ((dputs D L).map (·.2))
  | _, [], L, .nil, h => by
    simp only [pairsOf, Option.some.injEq] at h
    subst h
    refine ⟨[], [], rfl, .nil, ?_, ?_, fun es D a o o' h1 h2 h3 _ => ⟨h1, h2, h3⟩⟩
    · intro x hx
      cases hx
    · intro x hx
      cases hx
  | _, d :: r, L, .cons rd rr, h => by
    simp only [pairsOf] at h
    split at h
    · rename_i p ps hp hps
      split at h
      · rename_i hk
        cases h
        obtain ⟨ts, qs, e1, h2, h3, h4, h5⟩ := pairs_read sM rr hps
        obtain ⟨k, hk'⟩ := Option.isSome_iff_exists.mp hk
        obtain ⟨⟨lk, elk⟩, hdk, hn, hd⟩ := tkOf_eq hk'
        obtain ⟨x, y⟩ := p
        have ed : d = .tuple [x, y] := by
          unfold pairOf at hp
          split at hp
          · cases hp; rfl
          · cases hp
        subst ed
        cases rd with
        | tup hM zz rp =>
          cases rp with
          | cons rx rp => cases rp with
            | @cons vy _ _ _ ry rp =>
              cases rp
              obtain ⟨b, rfl, rb⟩ := tk_ref hk' rx
              refine ⟨_ :: ts, (k, b, vy) :: qs, by rw [List.map_cons, e1], .cons (sM _ _ hM) h2, ?_, ?_, ?_⟩
              · intro q hq
                rcases List.mem_cons.mp hq with rfl | hq
                · exact rb.kv sM hn
                · exact h3 q hq
              · intro q hq
                rcases List.mem_cons.mp hq with rfl | hq
                · exact ⟨hn, hd⟩
                · exact h4 q hq
              · intro es D a o o' k1 k2 k3 ok
                have step : (eput es k b vy).map (fun e => e.1.data) = (dput D k y).map (·.1) ∧ RpA M ((eput es k b vy).map fun e => V.ref e.2.1) ((dput D k y).map (·.1)) ∧ RpA M ((eput es k b vy).map fun e => e.2.2) ((dput D k y).map (·.2)) := by
                  have hany := nd_any k1 ok k
                  unfold eput dput
                  rw [← hany]
                  split
                  · exact nd_map ry k1 k2 k3 ok (k := k)
                  · simp only [List.map_append, List.map_cons, List.map_nil]
                    exact ⟨by rw [k1], k2.snoc rb, k3.snoc ry⟩
                have : dputs D ((x, y) :: ps) = dputs (dput D k y) ps := by
                  unfold dputs
                  rw [List.foldl_cons]
                  simp only [hk']
                rw [this]
                exact h5 (eput es k b vy) (dput D k y) a o o' step.1 step.2.1 step.2.2 (eput_ok ok hn hd)
      · cases h
    · cases h
def fDict (te : TED) : TFD := fun δ Q => te δ fun e δ' => ∃ l L, e = .d (.list l) ∧ pairsOf l = some L ∧ Q (.oN (dputs [] L)) δ'
theorem pf_dict {p : Pos} (hu : X.A.units + 64 < cLine) (hc : X.calm = true) (hg : Gl X "dict") (hm : X.mg "dict" = none) (h : PD X z a te) (hb : bootBuiltins "dict" = some (.type "dict") := by decide +kernel)
    (he : starEach [a] X.env = (false, eval a X.env) :: starEach [] X.env := by rfl) (hpl : (backTo pos (starEach [] X.env)).any (·.1) = false := by rfl) : PFD X z (.Call (.Name "dict" p) [a] [] pos) (fDict te) :=
  PE.imp (pe_callTy (call_dictN hu hc) hg hm hb (pa_cons h pa_nil he) (by decide) (by decide) he hpl) fun σ H Q ⟨R, H0, M0, M, δ, QD, hO, W, S, ht, hQ⟩ => ⟨R, H0, M0, M, δ, _, hO, W, S, ht, fun e δ' v H' M' q W' s' S' r => by
    obtain ⟨l, L, rfl, hL, q⟩ := q
    obtain ⟨p, xs, rfl, hp, zz, rr⟩ := (Rv.d r).lst W'.sub
    obtain ⟨ts, qs, e1, h2, h3, h4, h5⟩ := pairs_read W'.sub rr hL
    subst e1
    refine ⟨p, ts, qs, rfl, hp, h2, h3, h4, fun d o' hd ho' => ?_⟩
    obtain ⟨W2, S2, h0, hM, na⟩ := fresh_lay (o := DNo d o') W' S' hd
    obtain ⟨k1, k2, k3⟩ := h5 [] [] 0 o' o' rfl .nil .nil (fun x hx => by cases hx)
    exact hQ _ _ _ _ _ q rfl W2 s' S2 ⟨d, o', _, rfl, upd_same, ho', k1, k2, k3⟩ h0 hM na⟩
/-- {} -/
def fDnew : TFD := fun δ Q => Q (.oN []) δ
theorem pe_dnewN : PE X (.Dict [] [] pos) (fun _ H Q => ∀ p, H p = none → Q (.ref p) (upd H p (DNo p emptyO))) := by
  exact ⟨fun pins s σ H Q I h => wpAny_Dict_empty ⟨.ref s.heap.objs.size, _, dn_new I (t' := s.toks), rfl, h _ (I.hok.fresh (Nat.le_refl _))⟩⟩
theorem pf_dnew : PFD X z (.Dict [] [] pos) fDnew :=
  PE.imp pe_dnewN fun σ H Q ⟨R, H0, M0, M, δ, QD, hO, W, S, ht, hQ⟩ p hp => by
    obtain ⟨W2, S2, h0, hM, na⟩ := fresh_lay (o := DNo p emptyO) W S hp
    exact hQ _ _ _ _ _ ht rfl W2 (Same.refl _) S2 ⟨p, emptyO, [], rfl, upd_same, dobj_empty, rfl, .nil, .nil⟩ h0 hM na
def dDnew : TED := fun δ Q => Q (.d (.dict [])) δ
theorem pd_dnew : PD X z (.Dict [] [] pos) dDnew :=
  PE.imp pe_dnewN fun σ H Q ⟨R, H0, M0, M, δ, QD, hO, W, S, ht, hQ⟩ p hp => by
    have W2 := W.refl.alloc (o := DNo p emptyO) hp trivial
    exact hQ _ _ _ _ _ ht (W.trans W2) W2.m0 (S.ext W W2) (.dN upd_same dobj_empty rfl .nil .nil)
/-- x = e, owned -/
def dAsgF (i : Nat) (t : TFD) : TSD := fun E δ => t δ fun x δ' => E.nx (δ'.set i (some x))
theorem psd_setF {i : Nat} {x : Str} {pos' : Pos} {t : TFD} (hN : X.N.Nodup) (hi : X.N[i]? = some x) (hx : Loc X.env.scope x) (he : PFD X z e t) (hs : swapsWith e (some (.Name x pos')) pos.line X.env = pure false := by rfl) (hf : X.fn x = true ∨ X.env.scope.names.lookup x = some .local := by first | exact .inl rfl | exact .inr rfl | assumption) :
    PSD X z (.Assign [.Name x pos'] e pos) (dAsgF i t) :=
  PS.imp (ps_set hN hi hx he hs hf) fun D σ H ⟨R, H0, M0, Mb, M, δ, ED, hO, W, sb, S, ht, hD⟩ => ⟨R, H0, M0, M, δ, _, hO, W, S, ht, fun x δ' a H' M' q ow W' s' S' c h0 hM na =>
    hD.nx _ _ H' M' q W' (sb.trans s') (S'.setOwn i ow c h0 hM na)⟩
end
end DL
/-! The data layer 13: several names at once; what is owned let go. -/
namespace DL
open PySem PySem.Spec L2
section
variable {X : Cx} {z : Z} {a b c : Expr} {ta : TAD} {te te2 : TED} {t : TFD} {pos px py pz pt pt2 : Pos} {kt k2 : Nat} {K : PySem.W.Frag} {T : List Addr} {R : List RowP} {H0 M0 H M : Hp} {σ : L2.St} {δ : DS}
theorem Slots.share {i : Nat} {p : Addr} {x : DV} {y : PyData} {o : HO} (S : Slots R H0 H M σ δ) (e : δ[i]? = some (some x)) (hx : x.isOwn = true) (hσ : σ[i]? = some (some (.ref p))) (hM : M p = none) (r : Rp (upd M p o) (.ref p) y) : Slots R H0 H (upd M p o) σ (δ.set i (some (.d y))) where
  len := by simpa using S.len
  at_ := fun j w ew => by
    by_cases hj : i = j
    · subst hj
      have hi : i < δ.length := (List.getElem?_eq_some_iff.mp e).1
      rw [List.getElem?_set_self hi] at ew
      cases ew
      exact ⟨_, hσ, r, fun q => by cases q⟩
    · rw [List.getElem?_set_ne hj] at ew
      obtain ⟨v, e1, cw, ow⟩ := S.at_ j w ew
      refine ⟨v, e1, cw.mono (same_upd hM) (fun _ _ _ => rfl), fun oo => ?_⟩
      obtain ⟨b, rfl, n, hb⟩ := ow oo
      refine ⟨b, rfl, n, ?_⟩
      by_cases hp : b = p
      · subst hp
        exact absurd (S.sep i j x w _ e ew hx oo hσ e1) hj
      · rw [upd_ne hp]; exact hb
  sep := fun j k y' z' u e1 e2 o1 o2 e3 e4 => by
    have nj : ∀ (j : Nat) (y' : DV), (δ.set i (some (.d y)))[j]? = some (some y') → y'.isOwn = true → δ[j]? = some (some y') := fun j y' e1 o1 => by
      by_cases hj : i = j
      · subst hj
        have hi : i < δ.length := (List.getElem?_eq_some_iff.mp e).1
        rw [List.getElem?_set_self hi] at e1
        cases e1
        cases o1
      · rw [List.getElem?_set_ne hj] at e1; exact e1
    exact S.sep j k y' z' u (nj j y' e1 o1) (nj k z' e2 o2) o1 o2 e3 e4
/-- what is owned at slot j is data from here on -/
def relD (δ : DS) (j : Nat) (P : DS → Prop) : Prop := (∃ l, look δ j = some (.own l) ∧ P (δ.set j (some (.d (.list l))))) ∨ ∃ D, look δ j = some (.oN D) ∧ P (δ.set j (some (.d (.dict D))))
theorem rel_run {j : Nat} {P : DS → Prop} (W : Wd K T R H0 M0 H M) (S : Slots R H0 H M σ δ) (h : relD δ j P) : ∃ (δ' : DS) (M' : Hp), P δ' ∧ Wd K T R H0 M0 H M' ∧ Same M M' ∧ Slots R H0 H M' σ δ' := by
  rcases h with ⟨l, hl, p⟩ | ⟨D, hl, p⟩
  · obtain ⟨q, xs, hσ, hq, hz, r, h0, hM⟩ := S.own_lst (look_some hl)
    exact ⟨_, _, p, W.share hq h0 hM trivial, same_upd hM, S.share (look_some hl) rfl hσ hM (.lst upd_same hz (r.mono (same_upd hM)))⟩
  · obtain ⟨q, o, es, hσ, n, h0, hM⟩ := S.own_nd (look_some hl)
    obtain ⟨W2, r⟩ := n.share W h0 hM
    exact ⟨_, _, p, W2, same_upd hM, S.share (look_some hl) rfl hσ hM r⟩
def dRel (j : Nat) (t : TSD) : TSD := fun E δ => relD δ j (t E)
theorem psd_rel {s : Stmt} {t : TSD} (j : Nat) (h : PSD X z s t) : PSD X z s (dRel j t) :=
  PS.imp h fun D σ H ⟨R, H0, M0, Mb, M, δ, ED, hO, W, sb, S, ht, hD⟩ => by
    obtain ⟨δ', M', p, W', s', S'⟩ := rel_run W S ht
    exact ⟨R, H0, M0, Mb, M', δ', ED, hO, W', sb.trans s', S', p, hD⟩
/-- x, y = a, b -/
def dPar (i j : Nat) (ta : TAD) : TSD := fun E δ => ta δ fun es δ' => ∃ x y, es = [.d x, .d y] ∧ E.nx ((δ'.set i (some (.d x))).set j (some (.d y)))
theorem psd_par {i j : Nat} {x y : Str} (hc : X.calm = true) (hN : X.N.Nodup) (hi : X.N[i]? = some x) (hj : X.N[j]? = some y) (hij : i ≠ j) (hx : X.env.scope.names.lookup x = some .local) (hy : X.env.scope.names.lookup y = some .local) (ha : PAD X z [a, b] ta)
    (hw : swappedStores [.Tuple [.Name x px, .Name y py] kt pt] (.Tuple [a, b] k2 pt2) X.env = pure (some [x, y])) (hs : swapsWithSole [.Tuple [.Name x px, .Name y py] kt pt] (.Tuple [a, b] k2 pt2) pos.line X.env = pure false := by rfl) :
    PSD X z (.Assign [.Tuple [.Name x px, .Name y py] kt pt] (.Tuple [a, b] k2 pt2) pos) (dPar i j ta) :=
  PS.imp (ps_par hc hN hi hj hij hx hy ha hw hs) fun D σ H ⟨R, H0, M0, Mb, M, δ, ED, hO, W, sb, S, ht, hD⟩ => ⟨R, H0, M0, M, δ, _, hO, W, S, ht, fun es δ' v H' M' q W' s' S' r => by
    obtain ⟨x, y, rfl, q⟩ := q
    obtain ⟨v1, v2, rfl, r1, r2⟩ := r.two
    exact ⟨v1, v2, rfl, hD.nx _ _ H' M' q W' (sb.trans s') ((S'.set i r1).set j r2)⟩⟩
/-- x, y = a, a fresh thing -/
def dParF (i j : Nat) (te : TED) (t : TFD) : TSD := fun E δ => te δ fun e δ1 => t δ1 fun w δ2 => ∃ x, e = .d x ∧ E.nx ((δ2.set i (some (.d x))).set j (some w))
theorem NoAl.set {p : Addr} {i : Nat} {v : V} {x : PyData} (h : NoAl σ δ p) (hl : σ.length = δ.length) : NoAl (σ.set i (some v)) (δ.set i (some (.d x))) p := fun j y e o => by
  by_cases hj : i = j
  · subst hj
    by_cases hi : i < δ.length
    · rw [List.getElem?_set_self hi] at e
      cases e
      cases o
    · rw [List.getElem?_eq_none (by simpa using Nat.not_lt.mp hi)] at e
      cases e
  · rw [List.getElem?_set_ne hj] at e ⊢
    exact h j y e o
theorem psd_parF {i j : Nat} {x y : Str} (hc : X.calm = true) (hN : X.N.Nodup) (hi : X.N[i]? = some x) (hj : X.N[j]? = some y) (hij : i ≠ j) (hx : X.env.scope.names.lookup x = some .local) (hy : X.env.scope.names.lookup y = some .local) (ha : PD X z a te) (hb : PFD X z b t)
    (hw : swappedStores [.Tuple [.Name x px, .Name y py] kt pt] (.Tuple [a, b] k2 pt2) X.env = pure (some [x, y])) (hs : swapsWithSole [.Tuple [.Name x px, .Name y py] kt pt] (.Tuple [a, b] k2 pt2) pos.line X.env = pure false := by rfl)
    (he : starEach [a, b] X.env = (false, eval a X.env) :: starEach [b] X.env := by rfl) (he2 : starEach [b] X.env = (false, eval b X.env) :: starEach [] X.env := by rfl) :
    PSD X z (.Assign [.Tuple [.Name x px, .Name y py] kt pt] (.Tuple [a, b] k2 pt2) pos) (dParF i j te t) :=
  PS.imp (ps_par hc hN hi hj hij hx hy (pa_cons ha (pa_cons hb pa_nil he2) he) hw hs) fun D σ H ⟨R, H0, M0, Mb, M, δ, ED, hO, W, sb, S, ht, hD⟩ => ⟨R, H0, M0, M, δ, _, hO, W, S, ht, fun e δ1 v H1 M1 q1 W1 s1 S1 r1 =>
    ⟨R, H0, M0, M1, δ1, _, hO, W1, S1, q1, fun w δ2 p H2 M2 q2 ow W2 s2 S2 c h0 hM na => by
      obtain ⟨x, rfl, q⟩ := q2
      have S3 := S2.set i (r1.mono s2)
      exact ⟨v, .ref p, rfl, hD.nx _ _ H2 M2 q W2 (sb.trans (s1.trans s2)) (S3.setOwn j ow c h0 hM (na.set S2.len))⟩⟩⟩
/-- x, y, w = a, b, a fresh thing -/
def dPar3F (i j l : Nat) (te te2 : TED) (t : TFD) : TSD := fun E δ => te δ fun e δ1 => te2 δ1 fun e2 δ2 => t δ2 fun w δ3 => ∃ x y, e = .d x ∧ e2 = .d y ∧ E.nx (((δ3.set i (some (.d x))).set j (some (.d y))).set l (some w))
theorem psd_par3F {i j l : Nat} {x y w : Str} (hc : X.calm = true) (hN : X.N.Nodup) (hi : X.N[i]? = some x) (hj : X.N[j]? = some y) (hl : X.N[l]? = some w) (hij : i ≠ j) (hil : i ≠ l) (hjl : j ≠ l)
    (hx : X.env.scope.names.lookup x = some .local) (hy : X.env.scope.names.lookup y = some .local) (hz : X.env.scope.names.lookup w = some .local) (ha : PD X z a te) (hb : PD X z b te2) (hcc : PFD X z c t)
    (hw : swappedStores [.Tuple [.Name x px, .Name y py, .Name w pz] kt pt] (.Tuple [a, b, c] k2 pt2) X.env = pure (some [x, y, w]))
    (hs : swapsWithSole [.Tuple [.Name x px, .Name y py, .Name w pz] kt pt] (.Tuple [a, b, c] k2 pt2) pos.line X.env = pure false := by rfl)
    (he : starEach [a, b, c] X.env = (false, eval a X.env) :: starEach [b, c] X.env := by rfl) (he2 : starEach [b, c] X.env = (false, eval b X.env) :: starEach [c] X.env := by rfl) (he3 : starEach [c] X.env = (false, eval c X.env) :: starEach [] X.env := by rfl) :
    PSD X z (.Assign [.Tuple [.Name x px, .Name y py, .Name w pz] kt pt] (.Tuple [a, b, c] k2 pt2) pos) (dPar3F i j l te te2 t) :=
  PS.imp (ps_par3 hc hN hi hj hl hij hil hjl hx hy hz (pa_cons ha (pa_cons hb (pa_cons hcc pa_nil he3) he2) he) hw hs) fun D σ H ⟨R, H0, M0, Mb, M, δ, ED, hO, W, sb, S, ht, hD⟩ => ⟨R, H0, M0, M, δ, _, hO, W, S, ht, fun e δ1 v H1 M1 q1 W1 s1 S1 r1 =>
    ⟨R, H0, M0, M1, δ1, _, hO, W1, S1, q1, fun e2 δ2 v2 H2 M2 q2 W2 s2 S2 r2 => ⟨R, H0, M0, M2, δ2, _, hO, W2, S2, q2, fun w δ3 p H3 M3 q3 ow W3 s3 S3 c h0 hM na => by
      obtain ⟨x, y, rfl, rfl, q⟩ := q3
      have S4 := S3.set i (r1.mono (s2.trans s3))
      have S5 := S4.set j (r2.mono s3)
      exact ⟨v, v2, .ref p, rfl, hD.nx _ _ H3 M3 q W3 (sb.trans (s1.trans (s2.trans s3))) (S5.setOwn l ow c h0 hM ((na.set S3.len).set S4.len))⟩⟩⟩⟩
/-- x, y, w = a, [], []: y's owned, w's data -/
def dPar3L (i j l : Nat) (te : TED) : TSD := fun E δ => te δ fun e δ1 => ∃ x, e = .d x ∧ E.nx (((δ1.set i (some (.d x))).set j (some (.own []))).set l (some (.d (.list []))))
theorem Slots.swapSet {i j : Nat} {u v : Option V} (h : i ≠ j) : (σ.set i u).set j v = (σ.set j v).set i u := List.set_comm _ _ h
theorem psd_par3L {i j l : Nat} {x y w : Str} {p1 p2 : Pos} (hc : X.calm = true) (hN : X.N.Nodup) (hi : X.N[i]? = some x) (hj : X.N[j]? = some y) (hl : X.N[l]? = some w) (hij : i ≠ j) (hil : i ≠ l) (hjl : j ≠ l)
    (hx : X.env.scope.names.lookup x = some .local) (hy : X.env.scope.names.lookup y = some .local) (hz : X.env.scope.names.lookup w = some .local) (ha : PD X z a te)
    (hw : swappedStores [.Tuple [.Name x px, .Name y py, .Name w pz] kt pt] (.Tuple [a, .List [] p1, .List [] p2] k2 pt2) X.env = pure (some [x, y, w]))
    (hs : swapsWithSole [.Tuple [.Name x px, .Name y py, .Name w pz] kt pt] (.Tuple [a, .List [] p1, .List [] p2] k2 pt2) pos.line X.env = pure false := by rfl)
    (he : starEach [a, .List [] p1, .List [] p2] X.env = (false, eval a X.env) :: starEach [.List [] p1, .List [] p2] X.env := by rfl) (he2 : starEach [.List [] p1, .List [] p2] X.env = (false, eval (.List [] p1) X.env) :: starEach [.List [] p2] X.env := by rfl)
    (he3 : starEach [.List [] p2] X.env = (false, eval (.List [] p2) X.env) :: starEach [] X.env := by rfl) :
    PSD X z (.Assign [.Tuple [.Name x px, .Name y py, .Name w pz] kt pt] (.Tuple [a, .List [] p1, .List [] p2] k2 pt2) pos) (dPar3L i j l te) :=
  PS.imp (ps_par3 hc hN hi hj hl hij hil hjl hx hy hz (pa_cons ha (pa_cons (pe_lst pa_nil) (pa_cons (pe_lst pa_nil) pa_nil he3) he2) he) hw hs) fun D σ H ⟨R, H0, M0, Mb, M, δ, ED, hO, W, sb, S, ht, hD⟩ => ⟨R, H0, M0, M, δ, _, hO, W, S, ht, fun e δ1 v H1 M1 q1 W1 s1 S1 r1 => by
    obtain ⟨x, rfl, q⟩ := q1
    refine ⟨Nat.zero_le _, fun p hp => ⟨Nat.zero_le _, fun p' hp' => ?_⟩⟩
    have hne : p' ≠ p := fun e => by subst e; rw [upd_same] at hp'; cases hp'
    obtain ⟨W2, S2, h0, hM, na⟩ := fresh_lay (o := .lst []) W1 S1 hp
    have W3 := W2.refl.alloc (o := .lst []) hp' trivial
    have S3 := S2.ext W2 W3
    have S4 := S3.set i (r1.mono W3.m0)
    have hM3 : (upd M1 p' (.lst [])) p = none := by rw [upd_ne (Ne.symm hne)]; exact hM
    have S5 := S4.setOwn (H0 := H0) j (a := p) (x := .own []) rfl ⟨p, [], rfl, by rw [upd_ne (Ne.symm hne)]; exact upd_same, Nat.zero_le _, .nil⟩ h0 hM3 (na.set S3.len)
    have S6 := S5.set l (v := .ref p') (x := .list []) (.lst upd_same (Nat.zero_le _) .nil)
    exact ⟨v, .ref p, .ref p', rfl, hD.nx _ _ _ _ q (W2.trans W3) (sb.trans (s1.trans W3.m0)) S6⟩⟩
/-- a module's name that holds data -/
theorem pd_glob {x : Str} {v : V} {u : Value} {d : PyData} {pos : Pos} (hg : Gl X x) (hm : X.mg x = some u) (r : RelV v u) (rp : ∀ M, Rp M v d) (hd : (x == ("__debug__" : Str)) = false := by decide) : PD X z (.Name x pos) (dC d) := pd_c (pe_glob hg hm r hd) rp
end
end DL
/-! The data layer 14: what callers know of a def. -/
namespace DL
open PySem PySem.Spec L2
section
variable {P : Program} {w : World} {K : PySem.W.Frag} {mg : Str → Option Value} {base : Heap} {T : List Addr}
/-- what a caller needs -/
structure Cal (P : Program) (w : World) (K : PySem.W.Frag) (mg : Str → Option Value) (base : Heap) (T : List Addr) (n : Nat) (x : Str) (ps : List Str) (g : Gf) : Prop where
  ex : ∃ f fd, mg x = some (.ref f) ∧ PySem.W.keepIn K (.ref f) = true ∧ Binds K fd ps [] ∧ FnOk P w K mg base (L2.CX P w) n f fd ps (spD K T g)
/-- a def's text, where it stands, its code object -/
structure FunC (K : PySem.W.Frag) (mg : Str → Option Value) (x : Str) (st : Stmt) (c : Addr) : Prop where
  ex : ∃ (f : Addr) (oc : Value) (od : Option Addr) (kV doc pm : Value) (an : Option Addr) (ct : Value) (osl : Array (Option Value)), mg x = some (.ref f) ∧ PySem.W.keepIn K (.ref f) = true ∧
    K.lookup f = some ⟨oc, od, .func (PySem.W.fnOf x x (defArgs st) (defBody st) (defScope st) .none kV doc pm an (.ref c) ct), osl⟩ ∧ PySem.W.codeIn K (.ref c) x = true
theorem cal_of {x : Str} {st : Stmt} {c : Addr} {N ps : List Str} {k : Nat} {g : Gf} (F : FunC K mg x st c) (S : FnScope N ps (defScope st)) (len : ∀ ds QD XD, g ds QD XD → ds.length = ps.length) (t : (Ex → Prop) → TSD)
    (hb : ∀ (kV doc pm : Value) (an : Option Addr) (cdv ct : Value) (us : List Value), us.length = ps.length → bindArgs (PySem.W.fnOf x x (defArgs st) (defBody st) (defScope st) .none kV doc pm an cdv ct) ⟨us, []⟩ = pure (ps.zip us))
    (hbody : ∀ (f : Addr) (A : Around) (outer : List Env) (s : Shared) (H : Hp) (E : XK) (XD : Ex → Prop),
      BodyOk (cxOf (L2.CX P w) P w K mg base N x (defScope st) f (.ref c) A outer s H E) ⟨T, E, XD⟩ k → PSsD (cxOf (L2.CX P w) P w K mg base N x (defScope st) f (.ref c) A outer s H E) ⟨T, E, XD⟩ (defBody st) (t XD))
    (hmean : ∀ ds QD XD, g ds QD XD → t XD { nx := fun _ => QD .none, rt := QD } (startD N ds)) : Cal P w K mg base T (k + 1) x ps g := by
  obtain ⟨f, oc, od, kV, doc, pm, an, ct, osl, hm, hk, lk, hcd⟩ := F.ex
  refine ⟨f, _, hm, hk, .all (hb kV doc pm an (.ref c) ct), ?_⟩
  refine fn_of lk hcd S (fun vs H Q E ⟨R, M, ds, QD, XD, W, hv, no, hg, _⟩ => hv.length.trans (len ds QD XD hg)) fun A outer s H vs Q E hr ⟨R, M, ds, QD, XD, W, hv, no, hg, hQ, hE⟩ => ?_
  refine ⟨_, hbody f A outer s H E XD ⟨hr, takes_of rfl rfl rfl rfl, passes_of rfl⟩, ?_⟩
  exact ⟨R, H, M, M, M, startD N ds, _, fun x cls d H' M' hx W' r => hE x cls d H' M' hx W' r, W, Same.refl _, Slots.start hv no, hmean ds QD XD hg,
    { nx := fun δ σ H' M' q W' _ S' => hQ _ _ H' M' q W' .non, bk := fun _ _ _ _ q => q.elim, ct := fun _ _ _ _ q => q.elim, rt := fun u v H' M' q W' r => hQ u v H' M' q W' r }⟩
end
section
variable {X : Cx} {z : Z} {e : Expr} {es : List Expr} {t : TAD} {pos p : Pos}
theorem pd_callC {x : Str} {n : Nat} {ps : List Str} {g : Gf} {XD : Ex → Prop} (C : Cal X.prog X.w X.K X.mg X.base z.T n x ps g) (hr : Room n X.A) (hx : Passes (L2.CX X.prog X.w) X z.E) (ha : PAD X z (e :: es) t) (hg : Gl X x := by rfl) (hdb : (x == ("__debug__" : Str)) = false := by decide)
    (he : starEach (e :: es) X.env = (false, eval e X.env) :: starEach es X.env := by rfl) (hpl : (backTo pos (starEach es X.env)).any (·.1) = false := by rfl) (hXD : z.XD = XD := by rfl) : PD X z (.Call (.Name x p) (e :: es) [] pos) (dFn XD g t) := by
  subst hXD
  obtain ⟨f, fd, hm, hk, hb, F⟩ := C.ex
  exact pd_call F hr hg hm hk hb hx ha hdb he hpl
def iSeq (K : PySem.W.Frag) (te : TE) : TI := fun σ H R => te σ H fun v H1 => ∃ a, v = .ref a ∧ (((∃ xs, SqL K H1 a xs) ∧ R (Itl K a) H1) ∨ ((∃ xs, SqT K H1 a xs) ∧ R (Itt K a) H1))
theorem pi_seq {tg : Expr} {te : TE} (h : PE X e te) : PI X tg e (iSeq X.K te) := by
  refine ⟨fun pins s σ H R I q => thn (h.run pins s σ H _ I q) fun v s1 ⟨x, H1, I1, r1, a, ex, q1⟩ => ?_⟩
  subst ex
  cases r1
  have fin : ∀ (o : Obj) (h : o.isFreed = false), Inv X pins σ H1 { s1 with heap := s1.heap.push o } := fun o _ => I1.kept (t' := s1.toks) fun b u e => Heap.get?_push_of_some _ e
  have fp : ∀ b ∈ [s1.heap.objs.size], FpOk X pins H1 b := fun b hb => by
    obtain rfl : b = s1.heap.objs.size := by simpa using hb
    exact I1.fpOk (Nat.le_refl _) (I1.hok.fresh (Nat.le_refl _))
  rcases q1 with ⟨⟨xs, hq⟩, q⟩ | ⟨⟨xs, hq⟩, q⟩
  · obtain ⟨its, rv, p, hz⟩ := I1.list hq
    exact wpAny_pyIter_list p.isList ⟨_, [s1.heap.objs.size], _, _, H1, rfl, fin _ rfl, turn_list a _, ⟨_, Heap.get?_push_size _ rfl, rfl, rfl⟩, fp, q⟩
  · obtain ⟨its, rv, p, hz⟩ := I1.tuple hq
    exact wpAny_pyIter_tuple (show s1.heap.IsTuple a its.toArray from p) ⟨_, [s1.heap.objs.size], _, _, H1, rfl, fin _ rfl, turn_tuple a _, ⟨_, Heap.get?_push_size _ rfl, rfl, rfl⟩, fp, q⟩
def seqD : PyData → Option (List PyData)
  | .list l => some l
  | .tuple l => some l
  | _ => none
def diAny (te : TED) : TID := fun δ Q => te δ fun e δ' => ∃ d xs, e = .d d ∧ seqD d = some xs ∧ Q xs δ'
theorem pid_any {tg : Expr} {te : TED} (h : PD X z e te) : PID X z tg e (diAny te) := PI.imp (pi_seq h) fun σ H R' ⟨R, H0, M0, M, δ, QD, hO, W, S, ht, hQ⟩ =>
  ⟨R, H0, M0, M, δ, _, hO, W, S, ht, fun e δ' v H' M' q W' s' S' r => by
    obtain ⟨d, xs, rfl, hd, q⟩ := q
    unfold seqD at hd
    split at hd
    · cases hd
      cases r with
      | lst hM hz r => exact ⟨_, rfl, .inl ⟨⟨_, .of (W'.sub _ _ hM)⟩, hQ _ _ _ _ _ q W' s' S' (rep_list hM r)⟩⟩
    · cases hd
      cases r with
      | tup hM hz r => exact ⟨_, rfl, .inr ⟨⟨_, .of (W'.sub _ _ hM)⟩, hQ _ _ _ _ _ q W' s' S' (rep_tup hM r)⟩⟩
    · cases hd⟩
theorem pd_globI {x : Str} {n : Int} (hm : ∃ t, X.mg x = some (.int n t)) (hg : Gl X x := by rfl) (hd : (x == ("__debug__" : Str)) = false := by decide) : PD X z (.Name x p) (dC (.int n)) := by
  obtain ⟨t, hm⟩ := hm
  exact pd_glob hg hm (v := .int n) ⟨t, rfl⟩ (fun _ => .int n) hd
theorem bt_len : bootBuiltins "len" = some (.builtin "len") := by decide +kernel
theorem bt_sorted : bootBuiltins "sorted" = some (.builtin "sorted") := by decide +kernel
theorem bt_sum : bootBuiltins "sum" = some (.builtin "sum") := by decide +kernel
theorem bt_max : bootBuiltins "max" = some (.builtin "max") := by decide +kernel
theorem bt_min : bootBuiltins "min" = some (.builtin "min") := by decide +kernel
theorem bt_tuple : bootBuiltins "tuple" = some (.type "tuple") := by decide +kernel
theorem bt_list : bootBuiltins "list" = some (.type "list") := by decide +kernel
theorem bt_int : bootBuiltins "int" = some (.type "int") := by decide +kernel
theorem bt_bool : bootBuiltins "bool" = some (.type "bool") := by decide +kernel
theorem bt_str : bootBuiltins "str" = some (.type "str") := by decide +kernel
theorem bt_isi : bootBuiltins "isinstance" = some (.builtin "isinstance") := by decide +kernel
theorem bt_all : bootBuiltins "all" = some (.builtin "all") := by decide +kernel
theorem bt_dict : bootBuiltins "dict" = some (.type "dict") := by decide +kernel
end
theorem _root_.L2.Room.u64 {k : Nat} {A : Around} (r : Room k A) : A.units + 64 < cLine := by have := r.un; omega
theorem _root_.L2.Room.u65 {k : Nat} {A : Around} (r : Room k A) : A.units + 65 < cLine := by have := r.un; omega
theorem _root_.L2.Room.u100 {k : Nat} {A : Around} (r : Room k A) : A.units + 100 < cLine := by have := r.un; omega
end DL
/-! The data layer 15: the readings as computations, for simp. -/
namespace DL
open PySem PySem.Spec L2
section
variable {α : Type} {k : α → Prop}
def opt {α : Type} (o : Option α) (k : α → Prop) : Prop := ∃ a, o = some a ∧ k a
theorem opt_some {a : α} : opt (some a) k = k a := by simp [opt]
theorem opt_none : opt (none : Option α) k = False := by simp [opt]
theorem opt_ite {c : Prop} [Decidable c] {a : α} : opt (if c then some a else none) k = (c ∧ k a) := by
  by_cases h : c <;> simp [h, opt]
theorem opt_map {β : Type} {f : β → α} {o : Option β} : opt (o.map f) k = opt o fun b => k (f b) := by
  cases o <;> simp [opt]
end
/-- an EV that is data -/
def isD (e : EV) (k : PyData → Prop) : Prop := ∃ x, e = .d x ∧ k x
theorem isD_d {x : PyData} {k : PyData → Prop} : isD (.d x) k = k x := by simp [isD]
theorem isD_vw {i : Nat} {k : PyData → Prop} : isD (.vw i) k = False := by simp [isD]
def isB (x : PyData) (k : Bool → Prop) : Prop := ∃ b, x = .bool b ∧ k b
theorem isB_b {b : Bool} {k : Bool → Prop} : isB (.bool b) k = k b := by simp [isB]
def isI (x : PyData) (k : Int → Prop) : Prop := ∃ b, x = .int b ∧ k b
theorem isI_i {b : Int} {k : Int → Prop} : isI (.int b) k = k b := by simp [isI]
def isL (x : PyData) (k : List PyData → Prop) : Prop := ∃ b, x = .list b ∧ k b
theorem isL_l {b : List PyData} {k : List PyData → Prop} : isL (.list b) k = k b := by simp [isL]
def isT' (x : PyData) (k : List PyData → Prop) : Prop := ∃ b, x = .tuple b ∧ k b
theorem isT'_t {b : List PyData} {k : List PyData → Prop} : isT' (.tuple b) k = k b := by simp [isT']
def isDict (x : PyData) (k : DD → Prop) : Prop := ∃ b, x = .dict b ∧ k b
theorem isDict_d {b : DD} {k : DD → Prop} : isDict (.dict b) k = k b := by simp [isDict]
/-- a name's content -/
def vget (o : Option DV) (i : Nat) (k : EV → Prop) : Prop := match o with
  | some (.d x) => k (.d x)
  | some _ => k (.vw i)
  | none => False
theorem vget_d {x : PyData} {i : Nat} {k : EV → Prop} : vget (some (.d x)) i k = k (.d x) := rfl
theorem vget_row {i : Nat} {k : EV → Prop} : vget (some .row) i k = k (.vw i) := rfl
theorem vget_own {l : List PyData} {i : Nat} {k : EV → Prop} : vget (some (.own l)) i k = k (.vw i) := rfl
theorem vget_oN {D : DD} {i : Nat} {k : EV → Prop} : vget (some (.oN D)) i k = k (.vw i) := rfl
def ownL (o : Option DV) (k : List PyData → Prop) : Prop := ∃ l, o = some (.own l) ∧ k l
theorem ownL_o {l : List PyData} {k : List PyData → Prop} : ownL (some (.own l)) k = k l := by simp [ownL]
def ownN (o : Option DV) (k : DD → Prop) : Prop := ∃ l, o = some (.oN l) ∧ k l
theorem ownN_o {l : DD} {k : DD → Prop} : ownN (some (.oN l)) k = k l := by simp [ownN]
theorem look_nil {i : Nat} : look [] i = none := by simp [look]
theorem look_zero {a : Option DV} {l : DS} : look (a :: l) 0 = a := by cases a <;> simp [look]
theorem look_succ {a : Option DV} {l : DS} {n : Nat} : look (a :: l) (n + 1) = look l n := by simp [look]
theorem cont_d {δ : DS} {x : PyData} : cont δ (.d x) = some (.d x) := rfl
theorem cont_vw {δ : DS} {i : Nat} : cont δ (.vw i) = look δ i := rfl
theorem rd_d' {x : PyData} : (DV.d x).rd = some x := rfl
theorem rd_own' {x : List PyData} : (DV.own x).rd = some (.list x) := rfl
theorem dd_d' {D : DD} : (DV.d (.dict D)).dd = some D := rfl
theorem dd_oN' {D : DD} : (DV.oN D).dd = some D := rfl
section
variable {i j l : Nat} {δ : DS} {QE : EV → DS → Prop} {QT : Bool → DS → Prop} {QA : List EV → DS → Prop} {QI : List PyData → DS → Prop} {QO : Option Int → DS → Prop} {QF : DV → DS → Prop} {QP : PyData → Prop} {QR : Int → Int → DS → Prop} {E : DEnds} {te ta tb tc te2 : TED} {tA tB tx : TTD} {t u : TSD} {tt : TAD} {g g' : DV → DV → (PyData → Prop) → Prop} {f : F2} {x y : DV} {d : PyData} {tf : TFD} {to tl th : TOD} {tr : TRD}
theorem w_var : dVar i δ QE = vget (look δ i) i fun e => QE e δ := by
  unfold dVar vget
  split <;> simp_all
theorem w_c : dC d δ QE = QE (.d d) δ := rfl
theorem w_g2 : g2 f x y QP = opt x.rd fun a => opt y.rd fun b => opt (f a b) QP := by
  unfold g2 opt
  apply propext
  constructor
  · rintro ⟨a, b, r, h1, h2, h3, q⟩; exact ⟨a, h1, b, h2, r, h3, q⟩
  · rintro ⟨a, h1, b, h2, r, h3, q⟩; exact ⟨a, b, r, h1, h2, h3, q⟩
theorem w_gN {F : FN} {xs : List DV} : gN F xs QP = opt (rds xs) fun as => opt (F as) QP := by
  unfold gN opt
  apply propext
  constructor
  · rintro ⟨a, r, h1, h2, q⟩; exact ⟨a, h1, r, h2, q⟩
  · rintro ⟨a, h1, r, h2, q⟩; exact ⟨a, r, h1, h2, q⟩
theorem w_op : dOp g ta tb δ QE = ta δ fun e1 δ1 => tb δ1 fun e2 δ2 => opt (cont δ2 e1) fun x => opt (cont δ2 e2) fun y => g x y fun r => QE (.d r) δ2 := by
  unfold dOp opt
  congr 1; funext e1 δ1; congr 1; funext e2 δ2
  apply propext
  constructor
  · rintro ⟨a, b, h1, h2, q⟩; exact ⟨a, h1, b, h2, q⟩
  · rintro ⟨a, h1, b, h2, q⟩; exact ⟨a, b, h1, h2, q⟩
theorem w_B : dB te δ QT = te δ fun e δ' => isD e fun x => isB x fun k => QT k δ' := by
  unfold dB isD isB
  congr 1; funext e δ'
  apply propext
  constructor
  · rintro ⟨k, rfl, q⟩; exact ⟨_, rfl, k, rfl, q⟩
  · rintro ⟨_, rfl, k, rfl, q⟩; exact ⟨k, rfl, q⟩
theorem w_chain : dChain g g' ta tb tc δ QE = ta δ fun e1 δ1 => tb δ1 fun e2 δ2 => opt (cont δ2 e1) fun x => opt (cont δ2 e2) fun y => g x y fun r => isB r fun k =>
    if k = true then tc δ2 fun e3 δ3 => opt (cont δ3 e2) fun y' => opt (cont δ3 e3) fun w => g' y' w fun r' => QE (.d r') δ3 else QE (.d (.bool false)) δ2 := by
  unfold dChain opt isB
  congr 1; funext e1 δ1; congr 1; funext e2 δ2
  have h3 : ∀ {e2 : EV}, (fun (e3 : EV) (δ3 : DS) => ∃ y' w, cont δ3 e2 = some y' ∧ cont δ3 e3 = some w ∧ g' y' w fun r' => QE (.d r') δ3) = fun e3 δ3 => ∃ a, cont δ3 e2 = some a ∧ ∃ a_1, cont δ3 e3 = some a_1 ∧ g' a a_1 fun r' => QE (.d r') δ3 := by
    intro e2; funext e3 δ3
    apply propext
    constructor
    · rintro ⟨a, b, h1, h2, q⟩; exact ⟨a, h1, b, h2, q⟩
    · rintro ⟨a, h1, b, h2, q⟩; exact ⟨a, b, h1, h2, q⟩
  rw [h3]
  apply propext
  constructor
  · rintro ⟨a, b, h1, h2, q⟩; exact ⟨a, h1, b, h2, q⟩
  · rintro ⟨a, h1, b, h2, q⟩; exact ⟨a, b, h1, h2, q⟩
theorem w_and : dAnd tA tB δ QT = tA δ fun c δ1 => if c = true then tB δ1 QT else QT false δ1 := rfl
theorem w_or : dOr tA tB δ QT = tA δ fun c δ1 => if c = true then QT true δ1 else tB δ1 QT := rfl
theorem w_not : dNot tA δ QT = tA δ fun c δ1 => QT (!c) δ1 := rfl
theorem w_andV : dAndV ta tb δ QE = ta δ fun e δ1 => isD e fun x => isB x fun k => if k = true then tb δ1 QE else QE (.d (.bool false)) δ1 := by
  unfold dAndV isD isB
  congr 1; funext e δ'
  apply propext
  constructor
  · rintro ⟨k, rfl, q⟩; exact ⟨_, rfl, k, rfl, q⟩
  · rintro ⟨_, rfl, k, rfl, q⟩; exact ⟨k, rfl, q⟩
theorem w_orV : dOrV ta tb δ QE = ta δ fun e δ1 => isD e fun x => isB x fun k => if k = true then QE (.d (.bool true)) δ1 else tb δ1 QE := by
  unfold dOrV isD isB
  congr 1; funext e δ'
  apply propext
  constructor
  · rintro ⟨k, rfl, q⟩; exact ⟨_, rfl, k, rfl, q⟩
  · rintro ⟨_, rfl, k, rfl, q⟩; exact ⟨k, rfl, q⟩
theorem w_notV : dNotV ta δ QE = ta δ fun e δ1 => isD e fun x => isB x fun k => QE (.d (.bool (!k))) δ1 := by
  unfold dNotV isD isB
  congr 1; funext e δ'
  apply propext
  constructor
  · rintro ⟨k, rfl, q⟩; exact ⟨_, rfl, k, rfl, q⟩
  · rintro ⟨_, rfl, k, rfl, q⟩; exact ⟨k, rfl, q⟩
theorem w_if : dIf tA ta tb δ QE = tA δ fun k δ1 => if k = true then ta δ1 QE else tb δ1 QE := rfl
theorem w_nil : dNil δ QA = QA [] δ := rfl
theorem w_cons : dCons te tt δ QA = te δ fun e δ1 => tt δ1 fun es δ2 => QA (e :: es) δ2 := rfl
theorem w_tup : dTup tt δ QE = tt δ fun es δ' => opt (datas es) fun xs => xs.length ≤ sizeLine ∧ QE (.d (.tuple xs)) δ' := rfl
theorem w_lst : dLst tt δ QE = tt δ fun es δ' => opt (datas es) fun xs => xs.length ≤ sizeLine ∧ QE (.d (.list xs)) δ' := rfl
theorem w_call {gc : List DV → (PyData → Prop) → Prop} : dCall gc tt δ QE = tt δ fun es δ1 => opt (conts δ1 es) fun ds => gc ds fun r => QE (.d r) δ1 := rfl
theorem w_fn {XD : Ex → Prop} {gf : Gf} : dFn XD gf tt δ QE = tt δ fun es δ1 => opt (conts δ1 es) fun ds => ds.all (fun d => !d.isOwn) = true ∧ gf ds (fun r => QE (.d r) δ1) XD := rfl
theorem w_next : dNext E δ = E.nx δ := rfl
theorem w_seq : dSeq t u E δ = t { E with nx := u E } δ := rfl
theorem w_break : dBreak E δ = E.bk δ := rfl
theorem w_contS : dCont E δ = E.ct δ := rfl
theorem w_drop : dDrop te E δ = te δ fun _ δ' => E.nx δ' := rfl
theorem w_ret : dRet te E δ = te δ fun e _ => isD e E.rt := rfl
theorem w_retN : dRetN E δ = E.rt .none := rfl
theorem w_retOwn : dRetOwn i E δ = ownL (look δ i) fun l => E.rt (.list l) := rfl
theorem w_retOwnN : dRetOwnN i E δ = ownN (look δ i) fun l => E.rt (.dict l) := rfl
theorem w_ifS : dIfS tA t u E δ = tA δ fun b δ' => if b = true then t E δ' else u E δ' := rfl
theorem w_never : dNever E δ = False := rfl
theorem w_asg {gt : TGD} : dAsg te gt E δ = te δ fun e δ' => isD e fun x => gt x δ' E.nx := rfl
theorem w_gname {Q : DS → Prop} : gdName i d δ Q = Q (δ.set i (some (.d d))) := rfl
theorem w_gnil {Q : DS → Prop} : gdNil [] δ Q = Q δ := by simp [gdNil]
theorem w_gcons {gt : TGD} {gu : TGsD} {xs : List PyData} {Q : DS → Prop} : gdCons gt gu (d :: xs) δ Q = gt d δ fun δ' => gu xs δ' Q := by
  unfold gdCons
  apply propext
  constructor
  · rintro ⟨a, b, e, q⟩; cases e; exact q
  · intro q; exact ⟨_, _, rfl, q⟩
theorem w_gtup {n : Nat} {gu : TGsD} {Q : DS → Prop} : gdTup n gu d δ Q = isT' d fun xs => xs.length = n ∧ gu xs δ Q := rfl
theorem w_is1 {n : TN} : dIs1 n te δ QE = te δ fun e δ' => opt (cont δ' e) fun x => opt x.rd fun d => QE (.d (.bool (isT d n))) δ' := by
  unfold dIs1 opt
  congr 1; funext e δ'
  apply propext
  constructor
  · rintro ⟨a, b, h1, h2, q⟩; exact ⟨a, h1, b, h2, q⟩
  · rintro ⟨a, h1, b, h2, q⟩; exact ⟨a, b, h1, h2, q⟩
theorem w_is2 {n m : TN} : dIs2 n m te δ QE = te δ fun e δ' => opt (cont δ' e) fun x => opt x.rd fun d => QE (.d (.bool (isT d n || isT d m))) δ' := by
  unfold dIs2 opt
  congr 1; funext e δ'
  apply propext
  constructor
  · rintro ⟨a, b, h1, h2, q⟩; exact ⟨a, h1, b, h2, q⟩
  · rintro ⟨a, h1, b, h2, q⟩; exact ⟨a, b, h1, h2, q⟩
theorem w_tru : dTru te δ QT = te δ fun e δ' => opt (cont δ' e) fun x => opt x.rd fun d => opt (truD d) fun k => QT k δ' := by
  unfold dTru opt
  congr 1; funext e δ'
  apply propext
  constructor
  · rintro ⟨a, b, c, h1, h2, h3, q⟩; exact ⟨a, h1, b, h2, c, h3, q⟩
  · rintro ⟨a, h1, b, h2, c, h3, q⟩; exact ⟨a, b, c, h1, h2, h3, q⟩
theorem w_noPart : dNoPart δ QO = QO none δ := rfl
theorem w_part : dPart te δ QO = te δ fun e δ' => isD e fun x => isI x fun i => QO (some i) δ' := by
  unfold dPart isD isI
  congr 1; funext e δ'
  apply propext
  constructor
  · rintro ⟨k, rfl, q⟩; exact ⟨_, rfl, k, rfl, q⟩
  · rintro ⟨_, rfl, k, rfl, q⟩; exact ⟨k, rfl, q⟩
theorem w_cut : dCut te tl th δ QE = te δ fun e δ1 => tl δ1 fun lo δ2 => th δ2 fun hi δ3 => opt (cont δ3 e) fun x => opt x.rd fun d => opt (fCut d lo hi) fun r => QE (.d r) δ3 := by
  unfold dCut opt
  congr 1; funext e δ1; congr 1; funext lo δ2; congr 1; funext hi δ3
  apply propext
  constructor
  · rintro ⟨a, b, c, h1, h2, h3, q⟩; exact ⟨a, h1, b, h2, c, h3, q⟩
  · rintro ⟨a, h1, b, h2, c, h3, q⟩; exact ⟨a, b, c, h1, h2, h3, q⟩
theorem w_dnew : dDnew δ QE = QE (.d (.dict [])) δ := rfl
theorem w_fdnew : fDnew δ QF = QF (.oN []) δ := rfl
theorem w_flst : fLst tt δ QF = tt δ fun es δ' => opt (datas es) fun xs => xs.length ≤ sizeLine ∧ QF (.own xs) δ' := rfl
theorem w_flstRg : fLstRg tr δ QF = tr δ fun a b δ' => RgOk a b ∧ QF (.own (rng a (b - a).toNat)) δ' := rfl
theorem w_span {mk : List PyData → PyData} : dSpan mk tr δ QE = tr δ fun a b δ' => RgOk a b ∧ QE (.d (mk (rng a (b - a).toNat))) δ' := rfl
theorem w_rg1 : dRg1 te δ QR = te δ fun e δ' => isD e fun x => isI x fun n => QR 0 n δ' := by
  unfold dRg1 isD isI
  congr 1; funext e δ'
  apply propext
  constructor
  · rintro ⟨k, rfl, q⟩; exact ⟨_, rfl, k, rfl, q⟩
  · rintro ⟨_, rfl, k, rfl, q⟩; exact ⟨k, rfl, q⟩
theorem w_rg2 : dRg2 ta tb δ QR = ta δ fun e1 δ1 => tb δ1 fun e2 δ2 => isD e1 fun x => isD e2 fun y => isI x fun i => isI y fun j => QR i j δ2 := by
  unfold dRg2 isD isI
  congr 1; funext e δ'; congr 1; funext e2 δ2
  apply propext
  constructor
  · rintro ⟨i, j, rfl, rfl, q⟩; exact ⟨_, rfl, _, rfl, i, rfl, j, rfl, q⟩
  · rintro ⟨_, rfl, _, rfl, i, rfl, j, rfl, q⟩; exact ⟨i, j, rfl, rfl, q⟩
theorem w_frep : fRep ta tb δ QF = ta δ fun e1 δ1 => tb δ1 fun e2 δ2 => isD e1 fun x => isD e2 fun y => isL x fun l => isI y fun n => -(2 ^ 63) ≤ n ∧ n < 2 ^ 63 ∧ l.length * n.toNat ≤ sizeLine ∧ QF (.own (List.replicate n.toNat l).flatten) δ2 := by
  unfold fRep isD isI isL
  congr 1; funext e δ'; congr 1; funext e2 δ2
  apply propext
  constructor
  · rintro ⟨i, j, rfl, rfl, q⟩; exact ⟨_, rfl, _, rfl, i, rfl, j, rfl, q⟩
  · rintro ⟨_, rfl, _, rfl, i, rfl, j, rfl, q⟩; exact ⟨i, j, rfl, rfl, q⟩
theorem w_fdict : fDict te δ QF = te δ fun e δ' => isD e fun x => isL x fun l => opt (pairsOf l) fun L => QF (.oN (dputs [] L)) δ' := by
  unfold fDict isD isL opt
  congr 1; funext e δ'
  apply propext
  constructor
  · rintro ⟨l, L, rfl, h, q⟩; exact ⟨_, rfl, l, rfl, L, h, q⟩
  · rintro ⟨_, rfl, l, rfl, L, h, q⟩; exact ⟨l, L, rfl, h, q⟩
theorem w_asgF : dAsgF i tf E δ = tf δ fun x δ' => E.nx (δ'.set i (some x)) := rfl
theorem w_append : dAppend i te E δ = ownL (look δ i) fun _ => te δ fun e δ' => ownL (look δ' i) fun l => isD e fun x => l.length < sizeLine ∧ E.nx (δ'.set i (some (.own (l ++ [x])))) := by
  unfold dAppend ownL isD
  apply propext
  have h2 : (fun (e : EV) (δ' : DS) => ∃ l x, look δ' i = some (.own l) ∧ e = .d x ∧ l.length < sizeLine ∧ E.nx (δ'.set i (some (.own (l ++ [x]))))) = fun e δ' => ∃ l, look δ' i = some (.own l) ∧ ∃ x, e = .d x ∧ l.length < sizeLine ∧ E.nx (δ'.set i (some (.own (l ++ [x])))) := by
    funext e δ'
    apply propext
    constructor
    · rintro ⟨a, b, h1, h2, q⟩; exact ⟨a, h1, b, h2, q⟩
    · rintro ⟨a, h1, b, h2, q⟩; exact ⟨a, b, h1, h2, q⟩
  rw [h2]
  constructor
  · rintro ⟨⟨l0, h⟩, q⟩; exact ⟨l0, h, q⟩
  · rintro ⟨l0, h, q⟩; exact ⟨⟨l0, h⟩, q⟩
theorem w_extend : dExtend i te E δ = ownL (look δ i) fun _ => te δ fun e δ' => ownL (look δ' i) fun l => isD e fun y => isL y fun x => l.length + x.length ≤ sizeLine ∧ E.nx (δ'.set i (some (.own (l ++ x)))) := by
  unfold dExtend ownL isD isL
  apply propext
  have h2 : (fun (e : EV) (δ' : DS) => ∃ l x, look δ' i = some (.own l) ∧ e = .d (.list x) ∧ l.length + x.length ≤ sizeLine ∧ E.nx (δ'.set i (some (.own (l ++ x))))) = fun e δ' => ∃ l, look δ' i = some (.own l) ∧ ∃ y, e = .d y ∧ ∃ x, y = .list x ∧ l.length + x.length ≤ sizeLine ∧ E.nx (δ'.set i (some (.own (l ++ x)))) := by
    funext e δ'
    apply propext
    constructor
    · rintro ⟨a, b, h1, rfl, q⟩; exact ⟨a, h1, _, rfl, b, rfl, q⟩
    · rintro ⟨a, h1, _, rfl, b, rfl, q⟩; exact ⟨a, b, h1, rfl, q⟩
  rw [h2]
  constructor
  · rintro ⟨⟨l0, h⟩, q⟩; exact ⟨l0, h, q⟩
  · rintro ⟨l0, h, q⟩; exact ⟨⟨l0, h⟩, q⟩
theorem w_popAt : dPopAt i te δ QE = ownL (look δ i) fun _ => te δ fun e δ' => ownL (look δ' i) fun l => isD e fun y => isI y fun k => opt (ixN l.length k) fun j => opt l[j]? fun x => QE (.d x) (δ'.set i (some (.own (l.eraseIdx j)))) := by
  unfold dPopAt ownL isD isI opt
  apply propext
  have h2 : (fun (e : EV) (δ' : DS) => ∃ l k j x, look δ' i = some (.own l) ∧ e = .d (.int k) ∧ ixN l.length k = some j ∧ l[j]? = some x ∧ QE (.d x) (δ'.set i (some (.own (l.eraseIdx j))))) =
      fun e δ' => ∃ l, look δ' i = some (.own l) ∧ ∃ y, e = .d y ∧ ∃ k, y = .int k ∧ ∃ j, ixN l.length k = some j ∧ ∃ x, l[j]? = some x ∧ QE (.d x) (δ'.set i (some (.own (l.eraseIdx j)))) := by
    funext e δ'
    apply propext
    constructor
    · rintro ⟨l, k, j, x, h1, rfl, h3, h4, q⟩; exact ⟨l, h1, _, rfl, k, rfl, j, h3, x, h4, q⟩
    · rintro ⟨l, h1, _, rfl, k, rfl, j, h3, x, h4, q⟩; exact ⟨l, k, j, x, h1, rfl, h3, h4, q⟩
  rw [h2]
  constructor
  · rintro ⟨⟨l0, h⟩, q⟩; exact ⟨l0, h, q⟩
  · rintro ⟨l0, h, q⟩; exact ⟨⟨l0, h⟩, q⟩
theorem w_pop : dPop i δ QE = ownL (look δ i) fun l => opt l[l.length - 1]? fun x => QE (.d x) (δ.set i (some (.own l.dropLast))) := by
  unfold dPop ownL opt
  apply propext
  constructor
  · rintro ⟨l, x, h1, h2, q⟩; exact ⟨l, h1, x, h2, q⟩
  · rintro ⟨l, h1, x, h2, q⟩; exact ⟨l, x, h1, h2, q⟩
theorem w_augIx : dAugIx i ta te f E δ = ownL (look δ i) fun _ => ta δ fun e1 δ1 => isD e1 fun y => isI y fun k => ownL (look δ1 i) fun l1 => opt (ixN l1.length k) fun j1 => opt l1[j1]? fun a =>
    te δ1 fun e2 δ2 => ownL (look δ2 i) fun l => opt (cont δ2 e2) fun y => opt y.rd fun b => opt (f a b) fun c => opt (ixN l.length k) fun j => E.nx (δ2.set i (some (.own (l.set j c)))) := by
  unfold dAugIx ownL isD isI opt
  apply propext
  have h3 : ∀ (k : Int) (a : PyData), (fun (e2 : EV) (δ2 : DS) => ∃ l j y b c, look δ2 i = some (.own l) ∧ cont δ2 e2 = some y ∧ y.rd = some b ∧ f a b = some c ∧ ixN l.length k = some j ∧ E.nx (δ2.set i (some (.own (l.set j c))))) =
      fun e2 δ2 => ∃ l, look δ2 i = some (.own l) ∧ ∃ y, cont δ2 e2 = some y ∧ ∃ b, y.rd = some b ∧ ∃ c, f a b = some c ∧ ∃ j, ixN l.length k = some j ∧ E.nx (δ2.set i (some (.own (l.set j c)))) := by
    intro k a; funext e2 δ2
    apply propext
    constructor
    · rintro ⟨l, j, y, b, c, h1, h2, h3, h4, h5, q⟩; exact ⟨l, h1, y, h2, b, h3, c, h4, j, h5, q⟩
    · rintro ⟨l, h1, y, h2, b, h3, c, h4, j, h5, q⟩; exact ⟨l, j, y, b, c, h1, h2, h3, h4, h5, q⟩
  simp only [h3]
  have h4 : ∀ P : Int → List PyData → Nat → PyData → DS → Prop, (fun (e1 : EV) (δ1 : DS) => ∃ k l1 j1 a, e1 = .d (.int k) ∧ look δ1 i = some (.own l1) ∧ ixN l1.length k = some j1 ∧ l1[j1]? = some a ∧ P k l1 j1 a δ1) =
      fun e1 δ1 => ∃ y, e1 = .d y ∧ ∃ k, y = .int k ∧ ∃ l1, look δ1 i = some (.own l1) ∧ ∃ j1, ixN l1.length k = some j1 ∧ ∃ a, l1[j1]? = some a ∧ P k l1 j1 a δ1 := by
    intro P; funext e1 δ1
    apply propext
    constructor
    · rintro ⟨k, l1, j1, a, rfl, h2, h3, h4, q⟩; exact ⟨_, rfl, k, rfl, l1, h2, j1, h3, a, h4, q⟩
    · rintro ⟨_, rfl, k, rfl, l1, h2, j1, h3, a, h4, q⟩; exact ⟨k, l1, j1, a, rfl, h2, h3, h4, q⟩
  rw [h4 fun k l1 j1 a δ1 => te δ1 fun e2 δ2 => ∃ l, look δ2 i = some (.own l) ∧ ∃ y, cont δ2 e2 = some y ∧ ∃ b, y.rd = some b ∧ ∃ c, f a b = some c ∧ ∃ j, ixN l.length k = some j ∧ E.nx (δ2.set i (some (.own (l.set j c))))]
  constructor
  · rintro ⟨⟨l0, h⟩, q⟩; exact ⟨l0, h, q⟩
  · rintro ⟨l0, h, q⟩; exact ⟨⟨l0, h⟩, q⟩
variable {a0 : Option DV}
theorem v_var : dVar i (a0 :: δ) QE = vget (look (a0 :: δ) i) i fun e => QE e (a0 :: δ) := w_var
theorem v_c : dC d (a0 :: δ) QE = QE (.d d) (a0 :: δ) := w_c
theorem v_g2 : g2 f x y QP = opt x.rd fun a => opt y.rd fun b => opt (f a b) QP := w_g2
theorem v_gN {F : FN} {xs : List DV} : gN F xs QP = opt (rds xs) fun as => opt (F as) QP := w_gN
theorem v_op : dOp g ta tb (a0 :: δ) QE = ta (a0 :: δ) fun e1 δ1 => tb δ1 fun e2 δ2 => opt (cont δ2 e1) fun x => opt (cont δ2 e2) fun y => g x y fun r => QE (.d r) δ2 := w_op
theorem v_B : dB te (a0 :: δ) QT = te (a0 :: δ) fun e δ' => isD e fun x => isB x fun k => QT k δ' := w_B
theorem v_chain : dChain g g' ta tb tc (a0 :: δ) QE = ta (a0 :: δ) fun e1 δ1 => tb δ1 fun e2 δ2 => opt (cont δ2 e1) fun x => opt (cont δ2 e2) fun y => g x y fun r => isB r fun k =>
    if k = true then tc δ2 fun e3 δ3 => opt (cont δ3 e2) fun y' => opt (cont δ3 e3) fun w => g' y' w fun r' => QE (.d r') δ3 else QE (.d (.bool false)) δ2 := w_chain
theorem v_and : dAnd tA tB (a0 :: δ) QT = tA (a0 :: δ) fun c δ1 => if c = true then tB δ1 QT else QT false δ1 := w_and
theorem v_or : dOr tA tB (a0 :: δ) QT = tA (a0 :: δ) fun c δ1 => if c = true then QT true δ1 else tB δ1 QT := w_or
theorem v_not : dNot tA (a0 :: δ) QT = tA (a0 :: δ) fun c δ1 => QT (!c) δ1 := w_not
theorem v_andV : dAndV ta tb (a0 :: δ) QE = ta (a0 :: δ) fun e δ1 => isD e fun x => isB x fun k => if k = true then tb δ1 QE else QE (.d (.bool false)) δ1 := w_andV
theorem v_orV : dOrV ta tb (a0 :: δ) QE = ta (a0 :: δ) fun e δ1 => isD e fun x => isB x fun k => if k = true then QE (.d (.bool true)) δ1 else tb δ1 QE := w_orV
theorem v_notV : dNotV ta (a0 :: δ) QE = ta (a0 :: δ) fun e δ1 => isD e fun x => isB x fun k => QE (.d (.bool (!k))) δ1 := w_notV
theorem v_if : dIf tA ta tb (a0 :: δ) QE = tA (a0 :: δ) fun k δ1 => if k = true then ta δ1 QE else tb δ1 QE := w_if
theorem v_nil : dNil (a0 :: δ) QA = QA [] (a0 :: δ) := w_nil
theorem v_cons : dCons te tt (a0 :: δ) QA = te (a0 :: δ) fun e δ1 => tt δ1 fun es δ2 => QA (e :: es) δ2 := w_cons
theorem v_tup : dTup tt (a0 :: δ) QE = tt (a0 :: δ) fun es δ' => opt (datas es) fun xs => xs.length ≤ sizeLine ∧ QE (.d (.tuple xs)) δ' := w_tup
theorem v_lst : dLst tt (a0 :: δ) QE = tt (a0 :: δ) fun es δ' => opt (datas es) fun xs => xs.length ≤ sizeLine ∧ QE (.d (.list xs)) δ' := w_lst
theorem v_call {gc : List DV → (PyData → Prop) → Prop} : dCall gc tt (a0 :: δ) QE = tt (a0 :: δ) fun es δ1 => opt (conts δ1 es) fun ds => gc ds fun r => QE (.d r) δ1 := w_call
theorem v_fn {XD : Ex → Prop} {gf : Gf} : dFn XD gf tt (a0 :: δ) QE = tt (a0 :: δ) fun es δ1 => opt (conts δ1 es) fun ds => ds.all (fun d => !d.isOwn) = true ∧ gf ds (fun r => QE (.d r) δ1) XD := w_fn
theorem v_next : dNext E (a0 :: δ) = E.nx (a0 :: δ) := w_next
theorem v_seq : dSeq t u E (a0 :: δ) = t { E with nx := u E } (a0 :: δ) := w_seq
theorem v_break : dBreak E (a0 :: δ) = E.bk (a0 :: δ) := w_break
theorem v_contS : dCont E (a0 :: δ) = E.ct (a0 :: δ) := w_contS
theorem v_drop : dDrop te E (a0 :: δ) = te (a0 :: δ) fun _ δ' => E.nx δ' := w_drop
theorem v_ret : dRet te E (a0 :: δ) = te (a0 :: δ) fun e _ => isD e E.rt := w_ret
theorem v_retN : dRetN E (a0 :: δ) = E.rt .none := w_retN
theorem v_retOwn : dRetOwn i E (a0 :: δ) = ownL (look (a0 :: δ) i) fun l => E.rt (.list l) := w_retOwn
theorem v_retOwnN : dRetOwnN i E (a0 :: δ) = ownN (look (a0 :: δ) i) fun l => E.rt (.dict l) := w_retOwnN
theorem v_ifS : dIfS tA t u E (a0 :: δ) = tA (a0 :: δ) fun b δ' => if b = true then t E δ' else u E δ' := w_ifS
theorem v_never : dNever E (a0 :: δ) = False := w_never
theorem v_asg {gt : TGD} : dAsg te gt E (a0 :: δ) = te (a0 :: δ) fun e δ' => isD e fun x => gt x δ' E.nx := w_asg
theorem v_gname {Q : DS → Prop} : gdName i d (a0 :: δ) Q = Q ((a0 :: δ).set i (some (.d d))) := w_gname
theorem v_gnil {Q : DS → Prop} : gdNil [] δ Q = Q δ := w_gnil
theorem v_gcons {gt : TGD} {gu : TGsD} {xs : List PyData} {Q : DS → Prop} : gdCons gt gu (d :: xs) (a0 :: δ) Q = gt d (a0 :: δ) fun δ' => gu xs δ' Q := w_gcons
theorem v_gtup {n : Nat} {gu : TGsD} {Q : DS → Prop} : gdTup n gu d (a0 :: δ) Q = isT' d fun xs => xs.length = n ∧ gu xs (a0 :: δ) Q := w_gtup
theorem v_is1 {n : TN} : dIs1 n te (a0 :: δ) QE = te (a0 :: δ) fun e δ' => opt (cont δ' e) fun x => opt x.rd fun d => QE (.d (.bool (isT d n))) δ' := w_is1
theorem v_is2 {n m : TN} : dIs2 n m te (a0 :: δ) QE = te (a0 :: δ) fun e δ' => opt (cont δ' e) fun x => opt x.rd fun d => QE (.d (.bool (isT d n || isT d m))) δ' := w_is2
theorem v_tru : dTru te (a0 :: δ) QT = te (a0 :: δ) fun e δ' => opt (cont δ' e) fun x => opt x.rd fun d => opt (truD d) fun k => QT k δ' := w_tru
theorem v_noPart : dNoPart (a0 :: δ) QO = QO none (a0 :: δ) := w_noPart
theorem v_part : dPart te (a0 :: δ) QO = te (a0 :: δ) fun e δ' => isD e fun x => isI x fun i => QO (some i) δ' := w_part
theorem v_cut : dCut te tl th (a0 :: δ) QE = te (a0 :: δ) fun e δ1 => tl δ1 fun lo δ2 => th δ2 fun hi δ3 => opt (cont δ3 e) fun x => opt x.rd fun d => opt (fCut d lo hi) fun r => QE (.d r) δ3 := w_cut
theorem v_dnew : dDnew (a0 :: δ) QE = QE (.d (.dict [])) (a0 :: δ) := w_dnew
theorem v_fdnew : fDnew (a0 :: δ) QF = QF (.oN []) (a0 :: δ) := w_fdnew
theorem v_flst : fLst tt (a0 :: δ) QF = tt (a0 :: δ) fun es δ' => opt (datas es) fun xs => xs.length ≤ sizeLine ∧ QF (.own xs) δ' := w_flst
theorem v_flstRg : fLstRg tr (a0 :: δ) QF = tr (a0 :: δ) fun a b δ' => RgOk a b ∧ QF (.own (rng a (b - a).toNat)) δ' := w_flstRg
theorem v_span {mk : List PyData → PyData} : dSpan mk tr (a0 :: δ) QE = tr (a0 :: δ) fun a b δ' => RgOk a b ∧ QE (.d (mk (rng a (b - a).toNat))) δ' := w_span
theorem v_rg1 : dRg1 te (a0 :: δ) QR = te (a0 :: δ) fun e δ' => isD e fun x => isI x fun n => QR 0 n δ' := w_rg1
theorem v_rg2 : dRg2 ta tb (a0 :: δ) QR = ta (a0 :: δ) fun e1 δ1 => tb δ1 fun e2 δ2 => isD e1 fun x => isD e2 fun y => isI x fun i => isI y fun j => QR i j δ2 := w_rg2
theorem v_frep : fRep ta tb (a0 :: δ) QF = ta (a0 :: δ) fun e1 δ1 => tb δ1 fun e2 δ2 => isD e1 fun x => isD e2 fun y => isL x fun l => isI y fun n => -(2 ^ 63) ≤ n ∧ n < 2 ^ 63 ∧ l.length * n.toNat ≤ sizeLine ∧ QF (.own (List.replicate n.toNat l).flatten) δ2 := w_frep
theorem v_fdict : fDict te (a0 :: δ) QF = te (a0 :: δ) fun e δ' => isD e fun x => isL x fun l => opt (pairsOf l) fun L => QF (.oN (dputs [] L)) δ' := w_fdict
theorem v_asgF : dAsgF i tf E (a0 :: δ) = tf (a0 :: δ) fun x δ' => E.nx (δ'.set i (some x)) := w_asgF
theorem v_append : dAppend i te E (a0 :: δ) = ownL (look (a0 :: δ) i) fun _ => te (a0 :: δ) fun e δ' => ownL (look δ' i) fun l => isD e fun x => l.length < sizeLine ∧ E.nx (δ'.set i (some (.own (l ++ [x])))) := w_append
theorem v_extend : dExtend i te E (a0 :: δ) = ownL (look (a0 :: δ) i) fun _ => te (a0 :: δ) fun e δ' => ownL (look δ' i) fun l => isD e fun y => isL y fun x => l.length + x.length ≤ sizeLine ∧ E.nx (δ'.set i (some (.own (l ++ x)))) := w_extend
theorem v_popAt : dPopAt i te (a0 :: δ) QE = ownL (look (a0 :: δ) i) fun _ => te (a0 :: δ) fun e δ' => ownL (look δ' i) fun l => isD e fun y => isI y fun k => opt (ixN l.length k) fun j => opt l[j]? fun x => QE (.d x) (δ'.set i (some (.own (l.eraseIdx j)))) := w_popAt
theorem v_pop : dPop i (a0 :: δ) QE = ownL (look (a0 :: δ) i) fun l => opt l[l.length - 1]? fun x => QE (.d x) ((a0 :: δ).set i (some (.own l.dropLast))) := w_pop
theorem v_augIx : dAugIx i ta te f E (a0 :: δ) = ownL (look (a0 :: δ) i) fun _ => ta (a0 :: δ) fun e1 δ1 => isD e1 fun y => isI y fun k => ownL (look δ1 i) fun l1 => opt (ixN l1.length k) fun j1 => opt l1[j1]? fun a =>
    te δ1 fun e2 δ2 => ownL (look δ2 i) fun l => opt (cont δ2 e2) fun y => opt y.rd fun b => opt (f a b) fun c => opt (ixN l.length k) fun j => E.nx (δ2.set i (some (.own (l.set j c)))) := w_augIx
end
end DL
/-! The data layer 16: walks, comprehensions, loops as computations. -/
namespace DL
open PySem PySem.Spec L2
def forD (xs : List PyData) (δ1 : DS) (g : TGD) (tb : TSD) (E : DEnds) : Prop := ∃ I : Nat → DS → Prop, I 0 δ1 ∧ (∀ (k : Nat) (x : PyData) (δ : DS), xs[k]? = some x → I k δ → g x δ fun δ' => tb { E with nx := I (k + 1), ct := I (k + 1), bk := E.nx } δ') ∧ ∀ δ, I xs.length δ → E.nx δ
def whileD (δ : DS) (tc : TTD) (tb : TSD) (E : DEnds) : Prop := ∃ I : Nat → DS → Prop, (∃ m, I m δ) ∧ ∀ m δ, I m δ → tc δ fun b δ1 => if b = true then tb { E with nx := fun δ => ∃ m', m' < m ∧ I m' δ, ct := fun δ => ∃ m', m' < m ∧ I m' δ, bk := E.nx } δ1 else E.nx δ1
section
variable {i j l : Nat} {a0 : Option DV} {δ : DS} {QE : EV → DS → Prop} {QT : Bool → DS → Prop} {QA : List EV → DS → Prop} {QI : List PyData → DS → Prop} {QF : DV → DS → Prop} {QP : PyData → Prop} {E : DEnds} {te ta tb tc te2 tk tv : TED} {tA tx : TTD} {t u : TSD} {tt : TAD} {g g1 : TGD} {f : F2} {x y : DV} {d : PyData} {ti ti1 : TID} {vs vs1 : List Nat} {tts tt1 : TTD} {tf : TFD} {P : DS → Prop}
theorem v_for : dFor ti g t E (a0 :: δ) = ti (a0 :: δ) fun xs δ1 => forD xs δ1 g t E := rfl
theorem v_while : dWhile tA t E (a0 :: δ) = whileD (a0 :: δ) tA t E := rfl
theorem v_any : diAny te (a0 :: δ) QI = te (a0 :: δ) fun e δ' => isD e fun d => opt (seqD d) fun xs => QI xs δ' := by
  unfold diAny isD opt
  congr 1; funext e δ'
  apply propext
  constructor
  · rintro ⟨d, xs, rfl, h, q⟩; exact ⟨_, rfl, xs, h, q⟩
  · rintro ⟨_, rfl, xs, h, q⟩; exact ⟨_, xs, rfl, h, q⟩
/-- a list of EVs that are data -/
def dat1 (es : List EV) (k : PyData → Prop) : Prop := ∃ x, es = [.d x] ∧ k x
theorem dat1_d {x : PyData} {k : PyData → Prop} : dat1 [.d x] k = k x := by simp [dat1]
def dat2 (es : List EV) (k : PyData → PyData → Prop) : Prop := ∃ x y, es = [.d x, .d y] ∧ k x y
theorem dat2_d {x y : PyData} {k : PyData → PyData → Prop} : dat2 [.d x, .d y] k = k x y := by
  unfold dat2
  apply propext
  constructor
  · rintro ⟨_, _, h, q⟩; cases h; exact q
  · intro q; exact ⟨_, _, rfl, q⟩
theorem v_range1 : diR1 tt (a0 :: δ) QI = tt (a0 :: δ) fun es δ' => dat1 es fun x => isI x fun j => -(2 ^ 62) ≤ j ∧ j < 2 ^ 62 ∧ QI (rng 0 j.toNat) δ' := by
  unfold diR1 dat1 isI
  congr 1; funext e δ'
  apply propext
  constructor
  · rintro ⟨j, rfl, q⟩; exact ⟨_, rfl, j, rfl, q⟩
  · rintro ⟨_, rfl, j, rfl, q⟩; exact ⟨j, rfl, q⟩
theorem v_range2 : diR2 tt (a0 :: δ) QI = tt (a0 :: δ) fun es δ' => dat2 es fun x y => isI x fun i => isI y fun j => (-(2 ^ 62) ≤ i ∧ i < 2 ^ 62 ∧ -(2 ^ 62) ≤ j ∧ j < 2 ^ 62) ∧ QI (rng i (j - i).toNat) δ' := by
  unfold diR2 dat2 isI
  congr 1; funext e δ'
  apply propext
  constructor
  · rintro ⟨i, j, rfl, q⟩; exact ⟨_, _, rfl, i, rfl, j, rfl, q⟩
  · rintro ⟨_, _, rfl, i, rfl, j, rfl, q⟩; exact ⟨i, j, rfl, q⟩
def zipOf (x y : PyData) : Option (List PyData) := match x, y with
  | .list a, .list b => some (zipD a b)
  | .tuple a, .tuple b => some (zipD a b)
  | _, _ => none
theorem v_zip : diZip tt (a0 :: δ) QI = tt (a0 :: δ) fun es δ' => dat2 es fun x y => opt (zipOf x y) fun xs => QI xs δ' := by
  unfold diZip dat2 opt
  congr 1; funext e δ'
  apply propext
  constructor
  · rintro ⟨a, b, h | h, q⟩
    · exact ⟨_, _, h, _, rfl, q⟩
    · exact ⟨_, _, h, _, rfl, q⟩
  · rintro ⟨x, y, rfl, zs, h, q⟩
    unfold zipOf at h
    split at h
    · cases h; exact ⟨_, _, .inl rfl, q⟩
    · cases h; exact ⟨_, _, .inr rfl, q⟩
    · cases h
theorem v_enumT : diEnumT tt (a0 :: δ) QI = tt (a0 :: δ) fun es δ' => dat1 es fun x => isT' x fun xs => QI (enumD xs) δ' := by
  unfold diEnumT dat1 isT'
  congr 1; funext e δ'
  apply propext
  constructor
  · rintro ⟨xs, rfl, q⟩; exact ⟨_, rfl, xs, rfl, q⟩
  · rintro ⟨_, rfl, xs, rfl, q⟩; exact ⟨xs, rfl, q⟩
theorem v_enum : diEnum tt (a0 :: δ) QI = tt (a0 :: δ) fun es δ' => dat1 es fun x => isL x fun xs => QI (enumD xs) δ' := by
  unfold diEnum dat1 isL
  congr 1; funext e δ'
  apply propext
  constructor
  · rintro ⟨xs, rfl, q⟩; exact ⟨_, rfl, xs, rfl, q⟩
  · rintro ⟨_, rfl, xs, rfl, q⟩; exact ⟨xs, rfl, q⟩
theorem v_vals : diVals te (a0 :: δ) QI = te (a0 :: δ) fun e δ' => isD e fun d => isDict d fun D => QI (D.map (·.2)) δ' := by
  unfold diVals isD isDict
  congr 1; funext e δ'
  apply propext
  constructor
  · rintro ⟨D, rfl, q⟩; exact ⟨_, rfl, D, rfl, q⟩
  · rintro ⟨_, rfl, D, rfl, q⟩; exact ⟨D, rfl, q⟩
theorem v_items : diItems te (a0 :: δ) QI = te (a0 :: δ) fun e δ' => isD e fun d => isDict d fun D => QI (D.map fun p => pairD p.1 p.2) δ' := by
  unfold diItems isD isDict
  congr 1; funext e δ'
  apply propext
  constructor
  · rintro ⟨D, rfl, q⟩; exact ⟨_, rfl, D, rfl, q⟩
  · rintro ⟨_, rfl, D, rfl, q⟩; exact ⟨D, rfl, q⟩
theorem v_yes : dYes (a0 :: δ) QT = QT true (a0 :: δ) := rfl
theorem v_lc : dLc ti g tts te vs (a0 :: δ) QE = ti (a0 :: δ) fun xs δ1 => lcD xs δ1 g tts te vs fun acc => QE (.d (.list acc)) δ1 := rfl
theorem v_lcOwn : dLcOwn i ti g tts te vs E (a0 :: δ) = ti (a0 :: δ) fun xs δ1 => lcD xs δ1 g tts te vs fun acc => E.nx (δ1.set i (some (.own acc))) := rfl
theorem v_lc2 : dLc2 ti g tts ti1 g1 tt1 te vs vs1 (a0 :: δ) QE = ti (a0 :: δ) fun xs δ1 => lc2D xs δ1 g tts ti1 g1 tt1 te vs vs1 fun acc => QE (.d (.list acc)) δ1 := rfl
theorem v_all : dAll ti g te vs (a0 :: δ) QE = ti (a0 :: δ) fun xs δ1 => allD xs δ1 g te vs fun b => QE (.d (.bool b)) δ1 := rfl
theorem v_dc : dDc ti g tts tk tv vs (a0 :: δ) QE = ti (a0 :: δ) fun xs δ1 => dcD xs δ1 g tts tk tv vs fun D => QE (.d (.dict D)) δ1 := rfl
theorem v_dcOwn : dDcOwn i ti g tts tk tv vs E (a0 :: δ) = ti (a0 :: δ) fun xs δ1 => dcD xs δ1 g tts tk tv vs fun D => E.nx (δ1.set i (some (.oN D))) := rfl
theorem v_par : dPar i j tt E (a0 :: δ) = tt (a0 :: δ) fun es δ' => dat2 es fun x y => E.nx ((δ'.set i (some (.d x))).set j (some (.d y))) := rfl
theorem v_parF : dParF i j te tf E (a0 :: δ) = te (a0 :: δ) fun e δ1 => tf δ1 fun w δ2 => isD e fun x => E.nx ((δ2.set i (some (.d x))).set j (some w)) := rfl
theorem v_par3F : dPar3F i j l te te2 tf E (a0 :: δ) = te (a0 :: δ) fun e δ1 => te2 δ1 fun e2 δ2 => tf δ2 fun w δ3 => isD e fun x => isD e2 fun y => E.nx (((δ3.set i (some (.d x))).set j (some (.d y))).set l (some w)) := by
  unfold dPar3F isD
  congr 1; funext e δ1; congr 1; funext e2 δ2; congr 1; funext w δ3
  apply propext
  constructor
  · rintro ⟨x, y, h1, h2, q⟩; exact ⟨x, h1, y, h2, q⟩
  · rintro ⟨x, h1, y, h2, q⟩; exact ⟨x, y, h1, h2, q⟩
theorem v_par3L : dPar3L i j l te E (a0 :: δ) = te (a0 :: δ) fun e δ1 => isD e fun x => E.nx (((δ1.set i (some (.d x))).set j (some (.own []))).set l (some (.d (.list [])))) := rfl
def isDV (x : DV) (k : PyData → Prop) : Prop := ∃ d, x = .d d ∧ k d
theorem isDV_d {d : PyData} {k : PyData → Prop} : isDV (.d d) k = k d := by simp [isDV]
theorem v_inN {neg : Bool} : gInN neg x y QP = isDV x fun d => opt (tkOf d) fun k => opt y.dd fun D => QP (.bool (if neg then !(dget D k).isSome else (dget D k).isSome)) := by
  unfold gInN isDV opt
  apply propext
  constructor
  · rintro ⟨d, k, D, h1, h2, h3, q⟩; exact ⟨d, h1, k, h2, D, h3, q⟩
  · rintro ⟨d, h1, k, h2, D, h3, q⟩; exact ⟨d, k, D, h1, h2, h3, q⟩
theorem w_dget {δ : DS} : dDGet ta tb δ QE = ta δ fun e1 δ1 => tb δ1 fun e2 δ2 => opt (cont δ2 e1) fun x => opt x.dd fun D => isD e2 fun d => opt (tkOf d) fun k => opt (dget D k) fun v => QE (.d v) δ2 := by
  unfold dDGet isD opt
  congr 1; funext e1 δ1; congr 1; funext e2 δ2
  apply propext
  constructor
  · rintro ⟨x, D, d, k, v, h1, h2, h3, h4, h5, q⟩; exact ⟨x, h1, D, h2, d, h3, k, h4, v, h5, q⟩
  · rintro ⟨x, h1, D, h2, d, h3, k, h4, v, h5, q⟩; exact ⟨x, D, d, k, v, h1, h2, h3, h4, h5, q⟩
theorem v_dget : dDGet ta tb (a0 :: δ) QE = ta (a0 :: δ) fun e1 δ1 => tb δ1 fun e2 δ2 => opt (cont δ2 e1) fun x => opt x.dd fun D => isD e2 fun d => opt (tkOf d) fun k => opt (dget D k) fun v => QE (.d v) δ2 := w_dget
theorem v_dput : dDPut i tk tv E (a0 :: δ) = tv (a0 :: δ) fun ev δ1 => ownN (look δ1 i) fun _ => tk δ1 fun ek δ2 => ownN (look δ2 i) fun D => isD ek fun d => opt (tkOf d) fun k => opt (cont δ2 ev) fun y => isDV y fun x => D.length < sizeLine ∧ E.nx (δ2.set i (some (.oN (dput D k x)))) := by
  unfold dDPut ownN isD opt isDV
  congr 1; funext ev δ1
  have h : (fun (ek : EV) (δ2 : DS) => ∃ D d k x y, look δ2 i = some (.oN D) ∧ ek = .d d ∧ tkOf d = some k ∧ cont δ2 ev = some y ∧ y = .d x ∧ D.length < sizeLine ∧ E.nx (δ2.set i (some (.oN (dput D k x))))) =
      fun ek δ2 => ∃ D, look δ2 i = some (.oN D) ∧ ∃ d, ek = .d d ∧ ∃ k, tkOf d = some k ∧ ∃ y, cont δ2 ev = some y ∧ ∃ x, y = .d x ∧ D.length < sizeLine ∧ E.nx (δ2.set i (some (.oN (dput D k x)))) := by
    funext ek δ2
    apply propext
    constructor
    · rintro ⟨D, d, k, x, y, h1, h2, h3, h4, h5, q⟩; exact ⟨D, h1, d, h2, k, h3, y, h4, x, h5, q⟩
    · rintro ⟨D, h1, d, h2, k, h3, y, h4, x, h5, q⟩; exact ⟨D, d, k, x, y, h1, h2, h3, h4, h5, q⟩
  rw [h]
  apply propext
  constructor
  · rintro ⟨⟨D, h⟩, q⟩; exact ⟨D, h, q⟩
  · rintro ⟨D, h, q⟩; exact ⟨⟨D, h⟩, q⟩
theorem v_daug : dDAug i tk te f E (a0 :: δ) = ownN (look (a0 :: δ) i) fun _ => tk (a0 :: δ) fun ek δ1 => ownN (look δ1 i) fun D1 => isD ek fun d => opt (tkOf d) fun k => opt (dget D1 k) fun a =>
    te δ1 fun e2 δ2 => ownN (look δ2 i) fun D => opt (cont δ2 e2) fun y => opt y.rd fun b => opt (f a b) fun c => D.length < sizeLine ∧ E.nx (δ2.set i (some (.oN (dput D k c)))) := by
  unfold dDAug ownN isD opt
  have h3 : ∀ (k : NK) (a : PyData), (fun (e2 : EV) (δ2 : DS) => ∃ D y b c, look δ2 i = some (.oN D) ∧ cont δ2 e2 = some y ∧ y.rd = some b ∧ f a b = some c ∧ D.length < sizeLine ∧ E.nx (δ2.set i (some (.oN (dput D k c))))) =
      fun e2 δ2 => ∃ D, look δ2 i = some (.oN D) ∧ ∃ y, cont δ2 e2 = some y ∧ ∃ b, y.rd = some b ∧ ∃ c, f a b = some c ∧ D.length < sizeLine ∧ E.nx (δ2.set i (some (.oN (dput D k c)))) := by
    intro k a; funext e2 δ2
    apply propext
    constructor
    · rintro ⟨D, y, b, c, h1, h2, h3, h4, q⟩; exact ⟨D, h1, y, h2, b, h3, c, h4, q⟩
    · rintro ⟨D, h1, y, h2, b, h3, c, h4, q⟩; exact ⟨D, y, b, c, h1, h2, h3, h4, q⟩
  simp only [h3]
  have h4 : ∀ P : NK → PyData → DS → Prop, (fun (ek : EV) (δ1 : DS) => ∃ D1 d k a, look δ1 i = some (.oN D1) ∧ ek = .d d ∧ tkOf d = some k ∧ dget D1 k = some a ∧ P k a δ1) =
      fun ek δ1 => ∃ D1, look δ1 i = some (.oN D1) ∧ ∃ d, ek = .d d ∧ ∃ k, tkOf d = some k ∧ ∃ a, dget D1 k = some a ∧ P k a δ1 := by
    intro P; funext ek δ1
    apply propext
    constructor
    · rintro ⟨D, d, k, a, h1, h2, h3, h4, q⟩; exact ⟨D, h1, d, h2, k, h3, a, h4, q⟩
    · rintro ⟨D, h1, d, h2, k, h3, a, h4, q⟩; exact ⟨D, d, k, a, h1, h2, h3, h4, q⟩
  rw [h4 fun k a δ1 => te δ1 fun e2 δ2 => ∃ D, look δ2 i = some (.oN D) ∧ ∃ y, cont δ2 e2 = some y ∧ ∃ b, y.rd = some b ∧ ∃ c, f a b = some c ∧ D.length < sizeLine ∧ E.nx (δ2.set i (some (.oN (dput D k c))))]
  apply propext
  constructor
  · rintro ⟨⟨D, h⟩, q⟩; exact ⟨D, h, q⟩
  · rintro ⟨D, h, q⟩; exact ⟨⟨D, h⟩, q⟩
theorem v_rel : dRel j t E (a0 :: δ) = relD (a0 :: δ) j (t E) := rfl
end

/-! ### comprehensions whose turns are plain -/
section
variable {δ δ1 : DS} {g g1 : TGD} {tt tt1 : TTD} {te : TED} {ti1 : TID} {vs vs1 : List Nat}
theorem lcD_fm {xs : List PyData} {Q : List PyData → Prop} (f : PyData → Option PyData) (hz : xs.length ≤ sizeLine)
    (hb : ∀ x ∈ xs, ∀ P : Option PyData → Prop, P (f x) → g x (hide δ1 vs) fun δ2 => tt δ2 fun b δ3 => if b = true then te δ3 fun y _ => isD y fun yd => P (some yd) else P none) (hQ : Q (xs.filterMap f)) : lcD xs δ1 g tt te vs Q := by
  refine ⟨hz, fun k acc => acc = (xs.take k).filterMap f, by simp, fun k x acc hx ha => ?_, fun acc ha => by rw [ha, List.take_length]; exact hQ⟩
  have hm : x ∈ xs := List.mem_of_getElem? hx
  have ht : xs.take (k + 1) = xs.take k ++ [x] := by rw [List.take_add_one, hx]; rfl
  have key := hb x hm (fun o => match o with
    | some yd => acc ++ [yd] = (xs.take (k + 1)).filterMap f
    | none => acc = (xs.take (k + 1)).filterMap f) (by
      rw [ht, List.filterMap_append, ha]
      cases h : f x <;> simp [h])
  exact key
theorem allD_all {xs : List PyData} {Q : Bool → Prop} (p : PyData → Bool)
    (hb : ∀ x ∈ xs, ∀ P : Bool → Prop, P (p x) → g x (hide δ1 vs) fun δ2 => te δ2 fun y _ => isD y fun d => isB d fun b => if b = true then P true else P false) (hQ : Q (xs.all p)) : allD xs δ1 g te vs Q := by
  refine ⟨fun k => (xs.take k).all p = true, by simp, fun k x hx hk => ?_, fun h => by
    have h' : (xs.take xs.length).all p = true := h
    rw [List.take_length] at h'; rw [h'] at hQ; exact hQ⟩
  have hm : x ∈ xs := List.mem_of_getElem? hx
  have ht : xs.take (k + 1) = xs.take k ++ [x] := by rw [List.take_add_one, hx]; rfl
  have key := hb x hm (fun b => if b = true then (xs.take (k + 1)).all p = true else Q false) (by
    cases h : p x with
    | true => simp [ht, hk, h]
    | false =>
      have : xs.all p = false := by
        rw [List.all_eq_false]
        exact ⟨x, hm, by simp [h]⟩
      rw [this] at hQ
      simpa using hQ)
  have conv : (fun δ2 => te δ2 fun y _ => isD y fun d => isB d fun b => if b = true then (fun b => if b = true then (xs.take (k + 1)).all p = true else Q false) true else (fun b => if b = true then (xs.take (k + 1)).all p = true else Q false) false) =
      fun δ2 => te δ2 fun y _ => ∃ b, y = .d (.bool b) ∧ if b = true then (xs.take (k + 1)).all p = true else Q false := by
    funext δ2
    congr 1
    funext y _
    unfold isD isB
    apply propext
    constructor
    · rintro ⟨_, rfl, b, rfl, q⟩
      exact ⟨b, rfl, by cases b <;> simpa using q⟩
    · rintro ⟨b, rfl, q⟩
      exact ⟨_, rfl, b, rfl, by cases b <;> simpa using q⟩
  rw [conv] at key
  exact key
/-- the inner clause of a comprehension of two -/
def innD (ys : List PyData) (δ4 : DS) (g1 : TGD) (tt1 : TTD) (te : TED) (vs1 : List Nat) (acc : List PyData) (P : List PyData → Prop) : Prop :=
  ∃ I1 : Nat → List PyData → Prop, I1 0 acc ∧ (∀ (j : Nat) (y : PyData) (acc : List PyData), ys[j]? = some y → I1 j acc → g1 y (hide δ4 vs1) fun δ5 => tt1 δ5 fun b1 δ6 =>
      if b1 = true then te δ6 fun y _ => ∃ yd, y = .d yd ∧ acc.length < sizeLine ∧ I1 (j + 1) (acc ++ [yd]) else I1 (j + 1) acc) ∧ ∀ acc, I1 ys.length acc → P acc
theorem fm_le {α β : Type} (f : α → Option β) (l : List α) : (l.filterMap f).length ≤ l.length := List.length_filterMap_le f l
theorem innD_fm {ys : List PyData} {δ4 : DS} {acc : List PyData} {P : List PyData → Prop} (f : PyData → Option PyData) (hz : acc.length + (ys.filterMap f).length ≤ sizeLine)
    (hb : ∀ y ∈ ys, ∀ (P : Option PyData → Prop) (Z : Prop), ((f y).isSome = true → Z) → P (f y) → g1 y (hide δ4 vs1) fun δ5 => tt1 δ5 fun b1 δ6 => if b1 = true then te δ6 fun y _ => isD y fun yd => Z ∧ P (some yd) else P none) (hP : P (acc ++ ys.filterMap f)) : innD ys δ4 g1 tt1 te vs1 acc P := by
  refine ⟨fun j a => a = acc ++ (ys.take j).filterMap f, by simp, fun j y a hy ha => ?_, fun a ha => by rw [ha, List.take_length]; exact hP⟩
  have hm : y ∈ ys := List.mem_of_getElem? hy
  have ht : ys.take (j + 1) = ys.take j ++ [y] := by rw [List.take_add_one, hy]; rfl
  have hd : ys = ys.take (j + 1) ++ ys.drop (j + 1) := (List.take_append_drop _ _).symm
  exact hb y hm (fun o => match o with
    | some yd => a ++ [yd] = acc ++ (ys.take (j + 1)).filterMap f
    | none => a = acc ++ (ys.take (j + 1)).filterMap f) (a.length < sizeLine) (fun hs => by
      obtain ⟨w, hw⟩ := Option.isSome_iff_exists.mp hs
      have : (ys.filterMap f).length = ((ys.take (j + 1)).filterMap f).length + ((ys.drop (j + 1)).filterMap f).length := by
        conv => lhs; rw [hd]
        rw [List.filterMap_append, List.length_append]
      rw [ht, List.filterMap_append, List.length_append] at this
      simp [hw] at this
      rw [ha, List.length_append]
      omega) (by
      rw [ht, List.filterMap_append, ha]
      cases h : f y <;> simp [h])
theorem lc2D_fm {xs : List PyData} {Q : List PyData → Prop} (F : PyData → List PyData) (hz : (xs.flatMap F).length ≤ sizeLine)
    (hb : ∀ x ∈ xs, ∀ (acc : List PyData) (P : List PyData → Prop), acc.length + (F x).length ≤ sizeLine → P (acc ++ F x) → g x (hide δ1 vs) fun δ2 => tt δ2 fun b δ3 => if b = true then ti1 δ3 fun ys δ4 => innD ys δ4 g1 tt1 te vs1 acc P else P acc) (hQ : Q (xs.flatMap F)) :
    lc2D xs δ1 g tt ti1 g1 tt1 te vs vs1 Q := by
  refine ⟨fun k acc => acc = (xs.take k).flatMap F, by simp, fun k x acc hx ha => ?_, fun acc ha => by rw [ha, List.take_length]; exact hQ⟩
  have hm : x ∈ xs := List.mem_of_getElem? hx
  have ht : xs.take (k + 1) = xs.take k ++ [x] := by rw [List.take_add_one, hx]; rfl
  have hd : xs = xs.take (k + 1) ++ xs.drop (k + 1) := (List.take_append_drop _ _).symm
  have hl : acc.length + (F x).length ≤ sizeLine := by
    have : (xs.flatMap F).length = ((xs.take (k + 1)).flatMap F).length + ((xs.drop (k + 1)).flatMap F).length := by
      conv => lhs; rw [hd]
      rw [List.flatMap_append, List.length_append]
    rw [ht, List.flatMap_append, List.length_append] at this
    simp at this
    rw [ha]
    simp at hz ⊢
    omega
  exact hb x hm acc (fun a => a = (xs.take (k + 1)).flatMap F) hl (by rw [ht, List.flatMap_append, ha]; simp)
/-- a dict from a comprehension -/
def putO (D : DD) : Option (NK × PyData) → DD
  | some p => dput D p.1 p.2
  | none => D
theorem dcD_fm {xs : List PyData} {tk tv : TED} {Q : DD → Prop} (f : PyData → Option (NK × PyData)) (hz : xs.length ≤ sizeLine)
    (hb : ∀ x ∈ xs, ∀ P : Option (NK × PyData) → Prop, P (f x) → g x (hide δ1 vs) fun δ2 => tt δ2 fun b δ3 => if b = true then tk δ3 fun e1 δ4 => tv δ4 fun e2 _ => isD e1 fun d => opt (tkOf d) fun n => isD e2 fun y => P (some (n, y)) else P none)
    (hQ : Q (xs.foldl (fun D x => putO D (f x)) [])) : dcD xs δ1 g tt tk tv vs Q := by
  refine ⟨fun k D => D = (xs.take k).foldl (fun D x => putO D (f x)) [] ∧ D.length ≤ k, by simp, fun k x D hx hD => ?_, fun D hD => by rw [hD.1, List.take_length]; exact hQ⟩
  have hm : x ∈ xs := List.mem_of_getElem? hx
  have hk : k < xs.length := (List.getElem?_eq_some_iff.mp hx).1
  have ht : xs.take (k + 1) = xs.take k ++ [x] := by rw [List.take_add_one, hx]; rfl
  have key := hb x hm (fun o => D.length < sizeLine ∧ putO D o = (xs.take (k + 1)).foldl (fun D x => putO D (f x)) [] ∧ (putO D o).length ≤ k + 1) ⟨by omega, by rw [ht, List.foldl_append, ← hD.1]; rfl, by
    cases h : f x with
    | none => exact Nat.le_succ_of_le hD.2
    | some p => have := dput_length D p.1 p.2; simp only [putO]; omega⟩
  have conv : (fun δ2 => tt δ2 fun b δ3 => if b = true then tk δ3 fun e1 δ4 => tv δ4 fun e2 _ => isD e1 fun d => opt (tkOf d) fun n => isD e2 fun y => (D.length < sizeLine ∧ putO D (some (n, y)) = (xs.take (k + 1)).foldl (fun D x => putO D (f x)) [] ∧ (putO D (some (n, y))).length ≤ k + 1) else (D.length < sizeLine ∧ putO D none = (xs.take (k + 1)).foldl (fun D x => putO D (f x)) [] ∧ (putO D none).length ≤ k + 1)) =
      fun δ2 => tt δ2 fun b δ3 => if b = true then tk δ3 fun e1 δ4 => tv δ4 fun e2 _ => ∃ d n y, e1 = .d d ∧ tkOf d = some n ∧ e2 = .d y ∧ D.length < sizeLine ∧ (dput D n y = (xs.take (k + 1)).foldl (fun D x => putO D (f x)) [] ∧ (dput D n y).length ≤ k + 1) else (D = (xs.take (k + 1)).foldl (fun D x => putO D (f x)) [] ∧ D.length ≤ k + 1) := by
    have hd : D.length < sizeLine := by omega
    funext δ2; congr 1; funext b δ3
    have h1 : (fun (e1 : EV) (δ4 : DS) => tv δ4 fun e2 _ => isD e1 fun d => opt (tkOf d) fun n => isD e2 fun y => (D.length < sizeLine ∧ putO D (some (n, y)) = (xs.take (k + 1)).foldl (fun D x => putO D (f x)) [] ∧ (putO D (some (n, y))).length ≤ k + 1)) =
        fun e1 δ4 => tv δ4 fun e2 _ => ∃ d n y, e1 = .d d ∧ tkOf d = some n ∧ e2 = .d y ∧ D.length < sizeLine ∧ (dput D n y = (xs.take (k + 1)).foldl (fun D x => putO D (f x)) [] ∧ (dput D n y).length ≤ k + 1) := by
      funext e1 δ4; congr 1; funext e2 δ5
      unfold isD opt
      apply propext
      constructor
      · rintro ⟨d, h1, n, h2, y, h3, q⟩; exact ⟨d, n, y, h1, h2, h3, q⟩
      · rintro ⟨d, n, y, h1, h2, h3, q⟩; exact ⟨d, h1, n, h2, y, h3, q⟩
    have h2 : (D.length < sizeLine ∧ putO D none = (xs.take (k + 1)).foldl (fun D x => putO D (f x)) [] ∧ (putO D none).length ≤ k + 1) = (D = (xs.take (k + 1)).foldl (fun D x => putO D (f x)) [] ∧ D.length ≤ k + 1) := by
      apply propext
      exact ⟨fun q => q.2, fun q => ⟨hd, q⟩⟩
    rw [h1, h2]
  rw [conv] at key
  exact key
end
theorem shaped_bool (b : Bool) : SeqAt.shaped (.bool b) = true := by simp [SeqAt.shaped, PyData.canLay0, PyData.depth]
theorem shaped_int (b : Int) : SeqAt.shaped (.int b) = true := by simp [SeqAt.shaped, PyData.canLay0, PyData.depth]
theorem shaped_none : SeqAt.shaped .none = true := by simp [SeqAt.shaped, PyData.canLay0, PyData.depth]
end DL
/-! The data layer 17: comprehensions over typed lists. -/
namespace DL
open PySem PySem.Spec L2
section
variable {α β : Type} {δ δ1 : DS} {g g1 : TGD} {tt tt1 : TTD} {te tk tv : TED} {ti1 : TID} {vs vs1 : List Nat}
theorem get_map {α : Type} {enc : α → PyData} {l : List α} {k : Nat} {x : PyData} (h : (l.map enc)[k]? = some x) : ∃ a, l[k]? = some a ∧ x = enc a := by
  rw [List.getElem?_map] at h
  cases q : l[k]? with
  | none => rw [q] at h; cases h
  | some a => rw [q] at h; cases h; exact ⟨a, rfl, rfl⟩
theorem lcD_ty (enc : α → PyData) {l : List α} {Q : List PyData → Prop} (f : α → Option β) (dec : β → PyData) (hz : l.length ≤ sizeLine)
    (hb : ∀ x ∈ l, ∀ P : Option PyData → Prop, P ((f x).map dec) → g (enc x) (hide δ1 vs) fun δ2 => tt δ2 fun b δ3 => if b = true then te δ3 fun y _ => isD y fun yd => P (some yd) else P none) (hQ : Q ((l.filterMap f).map dec)) : lcD (l.map enc) δ1 g tt te vs Q := by
  refine ⟨by rw [List.length_map]; exact hz, fun k acc => acc = ((l.take k).filterMap f).map dec, by simp, fun k x acc hx ha => ?_, fun acc ha => by
    rw [List.length_map] at ha
    rw [ha, List.take_length]; exact hQ⟩
  obtain ⟨a, hk, rfl⟩ := get_map hx
  have hm : a ∈ l := List.mem_of_getElem? hk
  have ht : l.take (k + 1) = l.take k ++ [a] := by rw [List.take_add_one, hk]; rfl
  exact hb a hm (fun o => match o with
    | some yd => acc ++ [yd] = ((l.take (k + 1)).filterMap f).map dec
    | none => acc = ((l.take (k + 1)).filterMap f).map dec) (by
      rw [ht, List.filterMap_append, ha]
      cases h : f a <;> simp [h])
/-- with a test, an item as it stands -/
theorem lcD_filter (enc : α → PyData) {l : List α} {Q : List PyData → Prop} (p : α → Bool) (hz : l.length ≤ sizeLine)
    (hb : ∀ x ∈ l, ∀ P : Option PyData → Prop, P (if p x = true then some (enc x) else none) → g (enc x) (hide δ1 vs) fun δ2 => tt δ2 fun b δ3 => if b = true then te δ3 fun y _ => isD y fun yd => P (some yd) else P none) (hQ : Q ((l.filter p).map enc)) : lcD (l.map enc) δ1 g tt te vs Q := by
  refine lcD_ty enc (fun x => if p x = true then some x else none) enc hz (fun x hx P hP => hb x hx P ?_) ?_
  · cases h : p x <;> simpa [h] using hP
  · have : l.filterMap (fun x => if p x = true then some x else none) = l.filter p := by
      induction l with
      | nil => rfl
      | cons a r ih =>
        simp only [List.filterMap_cons, List.filter_cons]
        have hr : r.length ≤ sizeLine := by simp only [List.length_cons] at hz; omega
        have e : r.filterMap (fun x => if p x = true then some x else none) = r.filter p := by
          clear ih hQ hb hz hr
          induction r with
          | nil => rfl
          | cons b r ih => simp only [List.filterMap_cons, List.filter_cons]; cases p b <;> simp [ih]
        cases p a <;> simp [e]
    rw [this]
    exact hQ
/-- without a test -/
theorem lcD_map (enc : α → PyData) {l : List α} {Q : List PyData → Prop} (f : α → PyData) (hz : l.length ≤ sizeLine)
    (hb : ∀ x ∈ l, ∀ P : Option PyData → Prop, P (some (f x)) → g (enc x) (hide δ1 vs) fun δ2 => tt δ2 fun b δ3 => if b = true then te δ3 fun y _ => isD y fun yd => P (some yd) else P none) (hQ : Q (l.map f)) : lcD (l.map enc) δ1 g tt te vs Q := by
  refine lcD_ty enc (fun x => some (f x)) id hz (fun x hx P hP => hb x hx P (by simpa using hP)) ?_
  simpa using hQ
/-- with a test and another item -/
theorem lcD_fmap (enc : α → PyData) {l : List α} {Q : List PyData → Prop} (p : α → Bool) (f : α → PyData) (hz : l.length ≤ sizeLine)
    (hb : ∀ x ∈ l, ∀ P : Option PyData → Prop, P (if p x = true then some (f x) else none) → g (enc x) (hide δ1 vs) fun δ2 => tt δ2 fun b δ3 => if b = true then te δ3 fun y _ => isD y fun yd => P (some yd) else P none) (hQ : Q ((l.filter p).map f)) : lcD (l.map enc) δ1 g tt te vs Q := by
  refine lcD_ty enc (fun x => if p x = true then some (f x) else none) id hz (fun x hx P hP => hb x hx P ?_) ?_
  · cases h : p x <;> simpa [h] using hP
  · have : ∀ l : List α, l.filterMap (fun x => if p x = true then some (f x) else none) = (l.filter p).map f := by
      intro l
      induction l with
      | nil => rfl
      | cons b r ih => simp only [List.filterMap_cons, List.filter_cons]; cases p b <;> simp [ih]
    rw [this]
    simpa using hQ
theorem allD_ty (enc : α → PyData) {l : List α} {Q : Bool → Prop} (p : α → Bool)
    (hb : ∀ x ∈ l, ∀ P : Bool → Prop, P (p x) → g (enc x) (hide δ1 vs) fun δ2 => te δ2 fun y _ => isD y fun d => isB d fun b => if b = true then P true else P false) (hQ : Q (l.all p)) : allD (l.map enc) δ1 g te vs Q := by
  refine ⟨fun k => (l.take k).all p = true, by simp, fun k x hx hk => ?_, fun h => by
    have h' : (l.take (l.map enc).length).all p = true := h
    rw [List.length_map, List.take_length] at h'; rw [h'] at hQ; exact hQ⟩
  obtain ⟨a, hk', rfl⟩ := get_map hx
  have hm : a ∈ l := List.mem_of_getElem? hk'
  have ht : l.take (k + 1) = l.take k ++ [a] := by rw [List.take_add_one, hk']; rfl
  have key := hb a hm (fun b => if b = true then (l.take (k + 1)).all p = true else Q false) (by
    cases h : p a with
    | true => simp [ht, hk, h]
    | false =>
      have : l.all p = false := by
        rw [List.all_eq_false]
        exact ⟨a, hm, by simp [h]⟩
      rw [this] at hQ
      simpa using hQ)
  have conv : (fun δ2 => te δ2 fun y _ => isD y fun d => isB d fun b => if b = true then (fun b => if b = true then (l.take (k + 1)).all p = true else Q false) true else (fun b => if b = true then (l.take (k + 1)).all p = true else Q false) false) =
      fun δ2 => te δ2 fun y _ => ∃ b, y = .d (.bool b) ∧ if b = true then (l.take (k + 1)).all p = true else Q false := by
    funext δ2
    congr 1
    funext y _
    unfold isD isB
    apply propext
    constructor
    · rintro ⟨_, rfl, b, rfl, q⟩
      exact ⟨b, rfl, by cases b <;> simpa using q⟩
    · rintro ⟨b, rfl, q⟩
      exact ⟨_, rfl, b, rfl, by cases b <;> simpa using q⟩
  rw [conv] at key
  exact key
theorem innD_map (enc : α → PyData) {l : List α} {δ4 : DS} {acc : List PyData} {P : List PyData → Prop} (f : α → PyData) (hz : acc.length + l.length ≤ sizeLine)
    (hb : ∀ y ∈ l, ∀ (P : Option PyData → Prop) (Z : Prop), Z → P (some (f y)) → g1 (enc y) (hide δ4 vs1) fun δ5 => tt1 δ5 fun b1 δ6 => if b1 = true then te δ6 fun y _ => isD y fun yd => Z ∧ P (some yd) else P none) (hP : P (acc ++ l.map f)) : innD (l.map enc) δ4 g1 tt1 te vs1 acc P := by
  refine ⟨fun j a => a = acc ++ (l.take j).map f, by simp, fun j y a hy ha => ?_, fun a ha => by rw [List.length_map] at ha; rw [ha, List.take_length]; exact hP⟩
  obtain ⟨b, hk, rfl⟩ := get_map hy
  have hm : b ∈ l := List.mem_of_getElem? hk
  have hj : j < l.length := (List.getElem?_eq_some_iff.mp hk).1
  have ht : l.take (j + 1) = l.take j ++ [b] := by rw [List.take_add_one, hk]; rfl
  exact hb b hm (fun o => match o with
    | some yd => a ++ [yd] = acc ++ (l.take (j + 1)).map f
    | none => a = acc ++ (l.take (j + 1)).map f) (a.length < sizeLine) (by
      rw [ha, List.length_append, List.length_map, List.length_take]
      omega) (by rw [ht, ha]; simp)
theorem lc2D_ty (enc : α → PyData) {l : List α} {Q : List PyData → Prop} (F : α → List PyData) (hz : (l.flatMap F).length ≤ sizeLine)
    (hb : ∀ x ∈ l, ∀ (acc : List PyData) (P : List PyData → Prop), acc.length + (F x).length ≤ sizeLine → P (acc ++ F x) → g (enc x) (hide δ1 vs) fun δ2 => tt δ2 fun b δ3 => if b = true then ti1 δ3 fun ys δ4 => innD ys δ4 g1 tt1 te vs1 acc P else P acc) (hQ : Q (l.flatMap F)) :
    lc2D (l.map enc) δ1 g tt ti1 g1 tt1 te vs vs1 Q := by
  refine ⟨fun k acc => acc = (l.take k).flatMap F, by simp, fun k x acc hx ha => ?_, fun acc ha => by rw [List.length_map] at ha; rw [ha, List.take_length]; exact hQ⟩
  obtain ⟨a, hk, rfl⟩ := get_map hx
  have hm : a ∈ l := List.mem_of_getElem? hk
  have ht : l.take (k + 1) = l.take k ++ [a] := by rw [List.take_add_one, hk]; rfl
  have hd : l = l.take (k + 1) ++ l.drop (k + 1) := (List.take_append_drop _ _).symm
  have hl : acc.length + (F a).length ≤ sizeLine := by
    have : (l.flatMap F).length = ((l.take (k + 1)).flatMap F).length + ((l.drop (k + 1)).flatMap F).length := by
      conv => lhs; rw [hd]
      rw [List.flatMap_append, List.length_append]
    rw [ht, List.flatMap_append, List.length_append] at this
    simp at this
    rw [ha]
    simp at hz ⊢
    omega
  exact hb a hm acc (fun a => a = (l.take (k + 1)).flatMap F) hl (by rw [ht, List.flatMap_append, ha]; simp)
/-! ### loops over typed lists -/
theorem forD_ty (enc : α → PyData) {l : List α} {tb : TSD} {E : DEnds} (I : Nat → DS → Prop) (h0 : I 0 δ1) (hs : ∀ (k : Nat) (a : α) (δ : DS), l[k]? = some a → I k δ → g (enc a) δ fun δ' => tb { E with nx := I (k + 1), ct := I (k + 1), bk := E.nx } δ') (hd : ∀ δ, I l.length δ → E.nx δ) : forD (l.map enc) δ1 g tb E :=
  ⟨I, h0, fun k x δ hx i => by obtain ⟨a, hk, rfl⟩ := get_map hx; exact hs k a δ hk i, fun δ i => hd δ (by rw [List.length_map] at i; exact i)⟩
/-- a fold: the state behind k items -/
theorem forD_fold {γ : Type} (enc : α → PyData) {l : List α} {tb : TSD} {E : DEnds} (S : γ → DS → Prop) (step : γ → α → γ) (c0 : γ) (h0 : S c0 δ1)
    (hs : ∀ (k : Nat) (a : α) (δ : DS) (P : DS → Prop), l[k]? = some a → S ((l.take k).foldl step c0) δ → (∀ δ', S ((l.take (k + 1)).foldl step c0) δ' → P δ') → g (enc a) δ fun δ' => tb { E with nx := P, ct := P, bk := E.nx } δ') (hd : ∀ δ, S (l.foldl step c0) δ → E.nx δ) : forD (l.map enc) δ1 g tb E :=
  forD_ty enc (fun k δ => S ((l.take k).foldl step c0) δ) (by simpa using h0) (fun k a δ hk i => hs k a δ _ hk i fun δ' h => h) fun δ i => hd δ (by rw [List.take_length] at i; exact i)
end
end DL
/-! The data layer 18: the draws. -/
namespace DL
open PySem PySem.Spec L2
section
variable {K : PySem.W.Frag} {T : List Addr} {R : List RowP} {H0 M0 H M H' M' : Hp}
def rowO (sc : Addr) (k m q : Int) : HO := .lst [.ref sc, .int k, .int m, .int q]
theorem Sq_upd {a p : Addr} {ns : List Int} {sc : Addr} {k m q : Int} {o : HO} (h : SqL K H a (ns.map V.int)) (hp : H p = some (rowO sc k m q)) : SqL K (upd H p o) a (ns.map V.int) := by
  have ne : ∀ z : Bool, (z = true ∨ z = false) → True := fun _ _ => trivial
  rcases h with (x | ⟨u, x⟩) | x
  · have hn : a ≠ p := fun y => by
      rw [y, hp] at x
      cases ns <;> simp [rowO] at x
    exact .inl (.inl (by rw [upd_ne hn]; exact x))
  · have hn : a ≠ p := fun y => by
      rw [y, hp] at x
      simp [rowO] at x
    exact .inl (.inr ⟨u, by rw [upd_ne hn]; exact x⟩)
  · exact .inr x
theorem Wd.rowW (w : Wd K T R H0 M0 H M) {p : RowP} (hp : p ∈ R) {k m q : Int} (hk : 0 ≤ k) (hm : 0 ≤ m) (hm2 : m < 2147483647) : Wd K T R H0 M0 (upd H p.r (rowO p.sc k m q)) M where
  m0 := w.m0
  sub := fun b u e => by
    have hb : b ≠ p.r := fun z => by rw [z, w.rowM p hp] at e; cases e
    rw [upd_ne hb]; exact w.sub b u e
  cl := w.cl
  fr := w.fr
  keep := fun b u e => by
    by_cases hb : b = p.r
    · exact .inr (.inr ⟨p, hp, hb.symm⟩)
    · rw [upd_ne hb]; exact w.keep b u e
  tab := fun P hP => by
    obtain ⟨k0, m0, q0, e, _⟩ := w.row p hp
    exact (w.tab P hP).upd_ne ((w.tab P hP).ne_of e fun ps z => by cases z)
  row0 := w.row0
  row := fun x hx => by
    obtain ⟨k0, m0, q0, e, sq, rr⟩ := w.row x hx
    obtain ⟨k1, m1, q1, e1, sq1, rr1⟩ := w.row p hp
    by_cases hr : x.r = p.r
    · have es : x.sc = p.sc := by
        rw [hr, e1] at e
        simp at e
        exact e.1.symm
      refine ⟨k, m, q, by rw [hr, upd_same, es]; rfl, Sq_upd sq e1, hk, hm, hm2⟩
    · exact ⟨k0, m0, q0, by rw [upd_ne hr]; exact e, Sq_upd sq e1, rr⟩
  rowM := w.rowM
theorem Wd.row_of (w : Wd K T R H0 M0 H M) {p : RowP} (hp : p ∈ R) : ∃ k m q : Int, H p.r = some (rowO p.sc k m q) ∧ SqL K H p.sc (p.ns.map V.int) ∧ 0 ≤ k ∧ 0 ≤ m ∧ m < 2147483647 := w.row p hp
end
section
variable {P : Program} {w : World} {K : PySem.W.Frag} {mg : Str → Option Value} {base : Heap} {T : List Addr}
/-- a def whose body is read below the data -/
theorem cal_ofL {x : Str} {st : Stmt} {c : Addr} {N ps : List Str} {k : Nat} {g : Gf} (F : FunC K mg x st c) (S : FnScope N ps (defScope st)) (len : ∀ ds QD XD, g ds QD XD → ds.length = ps.length) (t : TS)
    (hb : ∀ (kV doc pm : Value) (an : Option Addr) (cdv ct : Value) (us : List Value), us.length = ps.length → bindArgs (PySem.W.fnOf x x (defArgs st) (defBody st) (defScope st) .none kV doc pm an cdv ct) ⟨us, []⟩ = pure (ps.zip us))
    (hbody : ∀ (f : Addr) (A : Around) (outer : List Env) (s : Shared) (H : Hp) (E : XK) (XD : Ex → Prop),
      BodyOk (cxOf (L2.CX P w) P w K mg base N x (defScope st) f (.ref c) A outer s H E) ⟨T, E, XD⟩ k → PSs (cxOf (L2.CX P w) P w K mg base N x (defScope st) f (.ref c) A outer s H E) (defBody st) t)
    (hmean : ∀ (R : List RowP) (H M : Hp) (vs : List V) (ds : List DV) (QD : PyData → Prop) (XD : Ex → Prop) (Q : VK), g ds QD XD → Wd K T R H M H M → DVA R H M vs ds →
      (∀ u v H' M', QD u → Wd K T R H M H' M' → Rp M' v u → Q v H') → t { nx := fun _ H' => Q .non H', rt := Q } (L2.start N vs) H) : Cal P w K mg base T (k + 1) x ps g := by
  obtain ⟨f, oc, od, kV, doc, pm, an, ct, osl, hm, hk, lk, hcd⟩ := F.ex
  refine ⟨f, _, hm, hk, .all (hb kV doc pm an (.ref c) ct), ?_⟩
  refine fn_of lk hcd S (fun vs H Q E ⟨R, M, ds, QD, XD, W, hv, no, hg, _⟩ => hv.length.trans (len ds QD XD hg)) fun A outer s H vs Q E hr ⟨R, M, ds, QD, XD, W, hv, no, hg, hQ, hE⟩ => ?_
  exact ⟨_, hbody f A outer s H E XD ⟨hr, takes_of rfl rfl rfl rfl, passes_of rfl⟩, hmean R H M vs ds QD XD Q hg W hv hQ⟩
def g_taken : Gf := fun ds QD _ => match ds with
  | [.row, .d (.int n)] => 0 < n ∧ n < 1073741824 ∧ ∀ k, 0 ≤ k → k < n → QD (.int k)
  | _ => False
end
def rMod : R2 := rI (fun _ j => 0 < j) fun i j => .int (i % j)
def rFdiv : R2 := rI CDiv fun i j => .int (i / j)
def rMul : R2 := rI CMul fun i j => .int (i * j)
def rPow : R2 := rI CPow fun i j => .int (i ^ j.toNat)
def rPlus : R2 := rI0 fun i j => .int (i + j)
def rMinus : R2 := rI0 fun i j => .int (i - j)
def rGt : R2 := rI0 fun i j => .bl (decide (j < i))
def rGe : R2 := rI0 fun i j => .bl (decide (j ≤ i))
def rInt1 : List V → Hp → VK → Prop := fun xs H Q => (∃ i, xs = [.int i] ∧ Q (.int i) H) ∨ ∃ k, xs = [.bl k] ∧ Q (.int (if k then 1 else 0)) H
def tRow (K : PySem.W.Frag) (i : Int) : TE := tOp (rIxL K) (tVar 0) (tC (.int i))
def gRow (i : Int) : TG := gSub (tVar 0) (tC (.int i)) rSetL
def tTaken (K : PySem.W.Frag) : TS :=
  tSeq (tIfS (tTest (tOp rGt (tRow K 3) (tC (.int 0))))
      (tSeq (tAsg (tOp rMod (tCB rInt1 (tCons (tRow K 3) tNil)) (tVar 1)) (gName 2)) (tSeq (tAsg (tOp rFdiv (tRow K 3) (tVar 1)) (gRow 3)) (tRet (tVar 2)))) tNext)
  (tSeq (tAsg (tOp rPlus (tRow K 1) (tC (.int 1))) (gRow 1))
  (tSeq (tIfS (tTest (tOp rGt (tRow K 1) (tCB (rLen K) (tCons (tRow K 0) tNil))))
      (tSeq (tAsg (tOp rMod (tCB rInt1 (tCons (tOp rPlus (tOp rMul (tRow K 2) (tC (.int 48271))) (tC (.int 11))) tNil)) (tC (.int 2147483647))) (gRow 2))
        (tRet (tOp rMod (tCB rInt1 (tCons (tOp rFdiv (tRow K 2) (tC (.int 7))) tNil)) (tVar 1)))) tNext)
  (tSeq (tAsg (tOp (rIxL K) (tRow K 0) (tOp rMinus (tRow K 1) (tC (.int 1)))) (gName 3))
  (tSeq (tAsg (tOp rMod (tCB rInt1 (tCons (tOp rPlus (tOp rPlus (tOp rMul (tRow K 2) (tC (.int 48271))) (tVar 3)) (tC (.int 11))) tNil)) (tC (.int 2147483647))) (gRow 2))
  (tSeq (tIfS (tTest (tOp rGe (tVar 3) (tOp rPow (tC (.int 10)) (tC (.int 18))))) (tAsg (tOp rFdiv (tVar 3) (tVar 1)) (gRow 3)) tNext)
  (tRet (tOp rMod (tCB rInt1 (tCons (tVar 3) tNil)) (tVar 1))))))))
section
variable {K : PySem.W.Frag} {T : List Addr} {R : List RowP} {H0 M0 H M H' M' : Hp} {Q : VK}
theorem ite_t {c : Bool} {A B : Prop} (h : c = true) (a : A) : if c = true then A else B := by rw [if_pos h]; exact a
theorem ite_f {c : Bool} {A B : Prop} (h : c = false) (a : B) : if c = true then A else B := by rw [h]; exact a
theorem a_row {σ : L2.St} {r sc : Addr} {k m q : Int} {i : Int} (s : σ[0]? = some (some (.ref r))) (h : H r = some (rowO sc k m q)) {v : V} (a : atI [V.ref sc, .int k, .int m, .int q] i = some v) (z : Q v H) : tRow K i σ H Q :=
  ⟨_, s, r, _, i, v, rfl, rfl, .inl (.inl h), a, z⟩
theorem a_set {σ : L2.St} {QQ : L2.St → Hp → Prop} {r sc : Addr} {k m q : Int} {i : Int} {j : Nat} {v : V} (s : σ[0]? = some (some (.ref r))) (h : H r = some (rowO sc k m q)) (a : ixN 4 i = some j) (z : QQ σ (upd H r (.lst ([V.ref sc, .int k, .int m, .int q].set j v)))) : gRow i v σ H QQ :=
  ⟨_, s, r, _, i, j, rfl, rfl, h, a, z⟩
theorem a_int {σ : L2.St} {i : Int} (z : Q (.int i) H) : tNil σ H (fun xs H2 => rInt1 (.int i :: xs) H2 Q) := .inl ⟨i, rfl, z⟩
theorem mod_ok {x n : Int} (h : 0 < n) : 0 ≤ x % n ∧ x % n < n := ⟨Int.emod_nonneg _ (by omega), Int.emod_lt_of_pos _ h⟩
theorem taken_mean (R : List RowP) (H M : Hp) (vs : List V) (ds : List DV) (QD : PyData → Prop) (XD : Ex → Prop) (Q : VK) (hg : g_taken ds QD XD) (W : Wd K T R H M H M) (hv : DVA R H M vs ds)
    (hQ : ∀ u v H' M', QD u → Wd K T R H M H' M' → Rp M' v u → Q v H') (nx : L2.St → Hp → Prop) : tTaken K { nx := nx, rt := Q } (L2.start ["row", "many", "found", "cell"] vs) H := by
  unfold g_taken at hg
  split at hg
  case h_2 => exact hg.elim
  rename_i n
  obtain ⟨hn, hn2, hk⟩ := hg
  cases hv with
  | cons h1 hv =>
  cases hv with
  | cons h2 hv =>
  cases hv
  obtain ⟨p, hp, rfl⟩ := h1
  cases h2
  obtain ⟨k, m, q, e, sq, k0, m0, m1⟩ := W.row_of hp
  have fin : ∀ (x : Int) (H' : Hp), Wd K T R H M H' M → Q (.int (x % n)) H' := fun x H' W' => hQ _ _ H' M (hk _ (mod_ok hn).1 (mod_ok hn).2) W' (.int _)
  have st : L2.start ["row", "many", "found", "cell"] [V.ref p.r, V.int n] = [some (V.ref p.r), some (V.int n), none, none] := rfl
  rw [st]
  unfold tTaken
  refine a_row rfl e rfl ?_
  refine ⟨q, 0, rfl, rfl, _, rfl, ?_⟩
  by_cases hq : 0 < q
  · refine ite_t (decide_eq_true hq) ?_
    refine a_row rfl e rfl ?_
    refine a_int ?_
    refine ⟨_, rfl, _, _, rfl, rfl, hn, ?_⟩
    refine a_row rfl e rfl ?_
    refine ⟨_, rfl, _, _, rfl, rfl, ⟨hn, hn2⟩, ?_⟩
    refine a_set (j := 3) rfl e rfl ?_
    refine ⟨_, rfl, ?_⟩
    exact fin _ _ (W.rowW hp k0 m0 m1)
  · refine ite_f (decide_eq_false hq) ?_
    show tSeq _ _ _ _ _
    refine a_row rfl e rfl ?_
    refine ⟨_, _, rfl, rfl, ?_⟩
    refine a_set (j := 1) rfl e rfl ?_
    have W1 : Wd K T R H M (upd H p.r (rowO p.sc (k + 1) m q)) M := W.rowW hp (by omega) m0 m1
    obtain ⟨e1, sq1⟩ : (upd H p.r (rowO p.sc (k + 1) m q)) p.r = some (rowO p.sc (k + 1) m q) ∧ SqL K (upd H p.r (rowO p.sc (k + 1) m q)) p.sc (p.ns.map V.int) := ⟨upd_same, Sq_upd sq e⟩
    refine a_row rfl e1 rfl ?_
    refine a_row rfl e1 rfl ?_
    refine ⟨V.ref p.sc, (p.ns.map V.int).length, rfl, .inl ⟨_, sq1, rfl⟩, ?_⟩
    refine ⟨_, _, rfl, rfl, _, rfl, ?_⟩
    by_cases hl : ((p.ns.map V.int).length : Int) < k + 1
    · refine ite_t (decide_eq_true hl) ?_
      refine a_row rfl e1 rfl ?_
      refine ⟨_, _, rfl, rfl, .inr (by omega), ?_⟩
      refine ⟨_, _, rfl, rfl, ?_⟩
      refine a_int ?_
      refine ⟨_, _, rfl, rfl, (by show (0:Int) < 2147483647; decide), ?_⟩
      refine a_set (j := 2) rfl e1 rfl ?_
      have hm := mod_ok (x := m * 48271 + 11) (n := 2147483647) (by decide)
      have W2 := W1.rowW hp (k := k + 1) (m := (m * 48271 + 11) % 2147483647) (q := q) (by omega) hm.1 hm.2
      refine a_row rfl upd_same rfl ?_
      refine ⟨_, _, rfl, rfl, ⟨by decide, by decide⟩, ?_⟩
      refine a_int ?_
      refine ⟨_, rfl, _, _, rfl, rfl, hn, ?_⟩
      exact fin _ _ W2
    · refine ite_f (decide_eq_false hl) ?_
      show tSeq _ _ _ _ _
      refine a_row rfl e1 rfl ?_
      refine a_row rfl e1 rfl ?_
      refine ⟨_, _, rfl, rfl, ?_⟩
      have hlt : k.toNat < p.ns.length := by rw [List.length_map] at hl; omega
      have ha : atI (p.ns.map V.int) (k + 1 - 1) = some (.int (p.ns[k.toNat]'hlt)) := by
        rw [show k + 1 - 1 = ((k.toNat : Nat) : Int) by omega]
        unfold atI ixN
        rw [if_pos (by omega), if_pos (by rw [List.length_map]; omega)]
        show (p.ns.map V.int)[((k.toNat : Nat) : Int).toNat]? = _
        rw [Int.toNat_natCast, List.getElem?_map, List.getElem?_eq_getElem hlt]; rfl
      refine ⟨_, _, _, _, rfl, rfl, sq1, ha, ?_⟩
      generalize p.ns[k.toNat]'hlt = c
      refine a_row rfl e1 rfl ?_
      refine ⟨_, _, rfl, rfl, .inr (by omega), ?_⟩
      refine ⟨_, rfl, _, _, rfl, rfl, ?_⟩
      refine ⟨_, _, rfl, rfl, ?_⟩
      refine a_int ?_
      refine ⟨_, _, rfl, rfl, (by show (0:Int) < 2147483647; decide), ?_⟩
      refine a_set (j := 2) rfl e1 rfl ?_
      have hm := mod_ok (x := m * 48271 + c + 11) (n := 2147483647) (by decide)
      have W2 := W1.rowW hp (k := k + 1) (m := (m * 48271 + c + 11) % 2147483647) (q := q) (by omega) hm.1 hm.2
      refine ⟨_, rfl, _, _, rfl, rfl, ⟨by decide, by decide, by decide⟩, ?_⟩
      refine ⟨_, _, rfl, rfl, _, rfl, ?_⟩
      by_cases hc : (10 : Int) ^ (18 : Int).toNat ≤ c
      · refine ite_t (decide_eq_true hc) ?_
        refine ⟨_, rfl, _, rfl, _, _, rfl, rfl, ⟨hn, hn2⟩, ?_⟩
        refine a_set (j := 3) rfl upd_same rfl ?_
        have W3 := W2.rowW hp (k := k + 1) (m := (m * 48271 + c + 11) % 2147483647) (q := c / n) (by omega) hm.1 hm.2
        refine ⟨_, rfl, ?_⟩
        refine a_int ?_
        refine ⟨_, rfl, _, _, rfl, rfl, hn, ?_⟩
        exact fin _ _ W3
      · refine ite_f (decide_eq_false hc) ?_
        refine ⟨_, rfl, ?_⟩
        refine a_int ?_
        refine ⟨_, rfl, _, _, rfl, rfl, hn, ?_⟩
        exact fin _ _ W2
end
end DL
/-! The data layer 19: three names at once, some of them seen from inside. -/
namespace DL
open PySem PySem.Spec L2
section
variable {X : Cx} {z : Z} {a : Expr} {te : TED} {pos px py pz pt pt2 : Pos} {kt k2 : Nat}
theorem psd_par3LG {i j l : Nat} {x y w : Str} {p1 p2 : Pos} (hc : X.calm = true) (h1 : PG X (.Name x px) (gName i)) (h2 : PG X (.Name y py) (gName j)) (h3 : PG X (.Name w pz) (gName l)) (ha : PD X z a te)
    (hs : swapsWithSole [.Tuple [.Name x px, .Name y py, .Name w pz] kt pt] (.Tuple [a, .List [] p1, .List [] p2] k2 pt2) pos.line X.env = pure false := by rfl)
    (hw : swappedStores [.Tuple [.Name x px, .Name y py, .Name w pz] kt pt] (.Tuple [a, .List [] p1, .List [] p2] k2 pt2) X.env = pure none := by rfl)
    (he : starEach [a, .List [] p1, .List [] p2] X.env = (false, eval a X.env) :: starEach [.List [] p1, .List [] p2] X.env := by rfl) (he2 : starEach [.List [] p1, .List [] p2] X.env = (false, eval (.List [] p1) X.env) :: starEach [.List [] p2] X.env := by rfl)
    (he3 : starEach [.List [] p2] X.env = (false, eval (.List [] p2) X.env) :: starEach [] X.env := by rfl)
    (hn : (assignEach [.Name x px, .Name y py, .Name w pz] X.env).length = 3 := by rfl) (hst : (assignEach [.Name x px, .Name y py, .Name w pz] X.env).findIdx? (·.1) = none := by rfl)
    (ge1 : (assignEach [.Name x px, .Name y py, .Name w pz] X.env).map (·.2) = assign (.Name x px) X.env :: (assignEach [.Name y py, .Name w pz] X.env).map (·.2) := by rfl)
    (ge2 : (assignEach [.Name y py, .Name w pz] X.env).map (·.2) = assign (.Name y py) X.env :: (assignEach [.Name w pz] X.env).map (·.2) := by rfl)
    (ge3 : (assignEach [.Name w pz] X.env).map (·.2) = assign (.Name w pz) X.env :: (assignEach [] X.env).map (·.2) := by rfl)
    (h1' : (assignEach [.Tuple [.Name x px, .Name y py, .Name w pz] kt pt] X.env).map (·.2) = [assign (.Tuple [.Name x px, .Name y py, .Name w pz] kt pt) X.env] := by rfl) :
    PSD X z (.Assign [.Tuple [.Name x px, .Name y py, .Name w pz] kt pt] (.Tuple [a, .List [] p1, .List [] p2] k2 pt2) pos) (dPar3L i j l te) :=
  PS.imp (ps_asg (pe_tup (pa_cons ha (pa_cons (pe_lst pa_nil) (pa_cons (pe_lst pa_nil) pa_nil he3) he2) he)) (pg_tup hc (pgs_cons h1 (pgs_cons h2 (pgs_cons h3 pgs_nil ge3) ge2) ge1) hn hst) hs hw h1') fun D σ H ⟨R, H0, M0, Mb, M, δ, ED, hO, W, sb, S, ht, hD⟩ => ⟨R, H0, M0, M, δ, _, hO, W, S, ht, fun e δ1 v H1 M1 q1 W1 s1 S1 r1 => by
    obtain ⟨x, rfl, q⟩ := q1
    refine ⟨Nat.zero_le _, fun p hp => ⟨Nat.zero_le _, fun p' hp' => ⟨(by show 3 ≤ sizeLine; decide), fun t htf => ?_⟩⟩⟩
    have hne : p' ≠ p := fun e => by subst e; rw [upd_same] at hp'; cases hp'
    have hnt : p ≠ t := fun e => by
      subst e
      rw [upd_ne (Ne.symm hne), upd_same] at htf; cases htf
    have hnt' : p' ≠ t := fun e => by subst e; rw [upd_same] at htf; cases htf
    obtain ⟨W2, S2, h0, hM, na⟩ := fresh_lay (o := .lst []) W1 S1 hp
    have W3 := W2.refl.alloc (o := .lst []) hp' trivial
    have S3 := S2.ext W2 W3
    have W23 := W2.trans W3
    have W4 := W23.refl.lay (o := .tup [v, .ref p, .ref p']) htf
    have S3b := S3.ext W23 W4
    have W24 := W23.trans W4
    refine ⟨t, _, rfl, .inl (.inl upd_same), rfl, v, _, rfl, .ref p, _, rfl, .ref p', _, rfl, rfl, ?_⟩
    have S4 := S3b.set i (r1.mono W3.m0)
    have hM3 : (upd M1 p' (.lst [])) p = none := by rw [upd_ne (Ne.symm hne)]; exact hM
    have S5 := S4.setOwn (H0 := H0) j (a := p) (x := .own []) rfl ⟨p, [], rfl, by rw [upd_ne hnt, upd_ne (Ne.symm hne)]; exact upd_same, Nat.zero_le _, .nil⟩ h0 hM3 (na.set S3.len)
    have S6 := S5.set l (v := .ref p') (x := .list []) (.lst upd_same (Nat.zero_le _) .nil)
    exact hD.nx _ _ _ _ q W24 (sb.trans (s1.trans W3.m0)) S6⟩
end
end DL
/-! The data layer 20: a law's own start, its end. -/
namespace DL
open PySem PySem.Spec L2
section
variable {P : Program} {w : World} {K : PySem.W.Frag} {mg : Str → Option Value} {base : Heap} {T : List Addr}
theorem SqL_free {H : Hp} {a p : Addr} {xs : List V} {o : HO} (h : SqL K H a xs) (hp : H p = none) : SqL K (upd H p o) a xs := by
  rcases h with (x | ⟨u, x⟩) | x
  · exact .inl (.inl (by rw [upd_ne (fun y => by rw [y, hp] at x; cases x)]; exact x))
  · exact .inl (.inr ⟨u, by rw [upd_ne (fun y => by rw [y, hp] at x; cases x)]; exact x⟩)
  · exact .inr x
/-- what a law's def is asked -/
def spLaw (K : PySem.W.Frag) (T : List Addr) : Sp := fun vs H Q _ => ∃ (a : Addr) (ns : List Int), vs = [.ref a] ∧ (∀ p ∈ T, TabG H p) ∧ SqL K H a (ns.map V.int) ∧ ∀ H', Q (.bl true) H'
def noH : Hp := fun _ => none
def tRow0 (seed : Int) : TS := tAsg (tLst (tCons (tVar 0) (tCons (tC (.int 0)) (tCons (tC (.int seed)) (tCons (tC (.int 0)) tNil))))) (gName 1)
/-- the slots behind the first statement -/
def law0 (N : List Str) : DS := none :: some .row :: List.replicate (N.length - 2) none
theorem slots0 {R : List RowP} {H : Hp} {p a : Addr} {ns : List Int} {x0 x1 : Str} {N : List Str} (hR : ⟨p, a, ns⟩ ∈ R) :
    Slots R H H noH ((L2.start (x0 :: x1 :: N) [V.ref a]).set 1 (some (.ref p))) (law0 (x0 :: x1 :: N)) where
  len := by simp [L2.start, law0]
  at_ := fun i x e => by
    match i, e with
    | 0, e => simp [law0] at e
    | 1, e =>
      simp [law0] at e
      subst e
      exact ⟨.ref p, by simp [L2.start], ⟨_, hR, rfl⟩, fun o => by cases o⟩
    | i + 2, e => simp [law0, List.getElem?_replicate] at e
  sep := fun i j x y v e1 e2 o1 o2 _ _ => by
    have key : ∀ (i : Nat) (x : DV), (law0 (x0 :: x1 :: N))[i]? = some (some x) → x.isOwn = true → False := fun i x e o => by
      match i, e with
      | 0, e => simp [law0] at e
      | 1, e =>
        simp [law0] at e
        subst e
        cases o
      | i + 2, e => simp [law0, List.getElem?_replicate] at e
    exact (key i x e1 o1).elim
theorem law_cal {x : Str} {st first : Stmt} {rest : List Stmt} {c f : Addr} {x0 x1 : Str} {N : List Str} {k : Nat} {seed : Int} (hm2 : 0 ≤ seed ∧ seed < 2147483647)
    {oc : Value} {od : Option Addr} {kV doc pm : Value} {an : Option Addr} {ct : Value} {osl : Array (Option Value)}
    (lk : K.lookup f = some ⟨oc, od, .func (PySem.W.fnOf x x (defArgs st) (defBody st) (defScope st) .none kV doc pm an (.ref c) ct), osl⟩) (hcd : PySem.W.codeIn K (.ref c) x = true)
    (S : FnScope (x0 :: x1 :: N) [x0] (defScope st)) (hb : defBody st = first :: rest) (t : TSD)
    (h1 : ∀ (A : Around) (outer : List Env) (s : Shared) (H : Hp) (E : XK), PS (cxOf (L2.CX P w) P w K mg base (x0 :: x1 :: N) x (defScope st) f (.ref c) A outer s H E) first (tRow0 seed))
    (hbody : ∀ (A : Around) (outer : List Env) (s : Shared) (H : Hp) (E : XK),
      BodyOk (cxOf (L2.CX P w) P w K mg base (x0 :: x1 :: N) x (defScope st) f (.ref c) A outer s H E) ⟨T, E, fun _ => False⟩ k → PSsD (cxOf (L2.CX P w) P w K mg base (x0 :: x1 :: N) x (defScope st) f (.ref c) A outer s H E) ⟨T, E, fun _ => False⟩ rest t)
    (hmean : t { nx := fun _ => False, rt := fun d => d = .bool true } (law0 (x0 :: x1 :: N))) :
    FnOk P w K mg base (L2.CX P w) (k + 1) f (PySem.W.fnOf x x (defArgs st) (defBody st) (defScope st) .none kV doc pm an (.ref c) ct) [x0] (spLaw K T) := by
  refine fn_of lk hcd S (fun vs H Q E ⟨a, ns, e, _⟩ => by rw [e]; rfl) fun A outer s H vs Q E hr ⟨a, ns, e, hT, hS, hQ⟩ => ?_
  subst e
  rw [hb]
  refine ⟨_, pss_cons (h1 A outer s H E) (hbody A outer s H E ⟨hr, takes_of rfl rfl rfl rfl, passes_of rfl⟩), ?_⟩
  refine ⟨.ref a, rfl, ⟨by show 4 ≤ sizeLine; decide, fun p hp => ?_⟩⟩
  have hR : (⟨p, a, ns⟩ : RowP) ∈ [(⟨p, a, ns⟩ : RowP)] := List.mem_cons_self
  have row : ∀ q ∈ [(⟨p, a, ns⟩ : RowP)], RowOk K (upd H p (.lst [.ref a, .int 0, .int seed, .int 0])) q := fun q hq => by
    obtain rfl : q = ⟨p, a, ns⟩ := by simpa using hq
    exact ⟨0, seed, 0, upd_same, SqL_free hS hp, by decide, hm2.1, hm2.2⟩
  refine ⟨[⟨p, a, ns⟩], upd H p (.lst [.ref a, .int 0, .int seed, .int 0]), noH, noH, noH, law0 (x0 :: x1 :: N), _, fun _ _ _ _ _ hx => hx.elim, ?_, Same.refl _, slots0 hR, hmean, ?_⟩
  · exact { m0 := Same.refl _, sub := fun b o e => (by cases e), cl := fun b o e => (by cases e), fr := fun b e => (e rfl).elim, keep := fun b o e => .inl e, tab := fun q hq => (hT q hq).upd_ne ((hT q hq).ne_free hp), row0 := row, row := row, rowM := fun q hq => rfl }
  · refine ⟨fun _ _ _ _ q => q.elim, fun _ _ _ _ q => q.elim, fun _ _ _ _ q => q.elim, fun u v H' M' q W' r => ?_⟩
    have q' : u = .bool true := q
    subst q'
    cases r
    exact hQ H'
/-- a def of the head as a caller sees it -/
theorem func_of {fa : List He.Fa} {fn : List He.DefD} {x : Str} {st : Stmt} {h : Heap} (X : K.In h) (G : h.Ns mainGlobals mg) (c : He.SaysD fa fn K) (hd : (⟨(x, none), x, x, defArgs st, defBody st, defScope st, [], []⟩ : He.DefD) ∈ fn) (hg : He.Fa.glo x ∈ fa) :
    FunC K mg x st (He.codeOf K (x, none)) := by
  obtain ⟨fd, ⟨oc, od, dV, kV, doc, pm, an, cdv, ct, osl, e, lk, hcd, hdv, hkw⟩, kp⟩ := c.defs hd
  obtain ⟨cc, rfl⟩ := He.codeIn_ref hcd
  have hdn : dV = .none := by
    rcases hdv with ⟨h1, h2⟩ | ⟨h1, _⟩
    · first | exact h1 | exact h2
    · exact (h1 rfl).elim
  subst hdn
  subst e
  have ec : He.codeOf K (x, none) = cc := He.codeOf_eq lk rfl
  rw [ec]
  exact ⟨_, oc, od, kV, doc, pm, an, ct, osl, He.glo_ok X G (c.facts hg), kp, lk, hcd⟩
end
end DL
/-! The data layer: dicts whose keys are ints; sets of ints, of tuples of ints. -/
namespace DL
open PySem PySem.Spec L2
/-! ### plain -/
def insU (x : Int) : List Int → List Int
  | [] => [x]
  | y :: r => if x < y then x :: y :: r else if x = y then y :: r else y :: insU x r
def uniqI : List Int → List Int
  | [] => []
  | x :: r => insU x (uniqI r)
theorem mem_insU {x a : Int} : ∀ {l : List Int}, a ∈ insU x l ↔ a = x ∨ a ∈ l
  | [] => by simp [insU]
  | y :: r => by
    unfold insU
    by_cases h1 : x < y
    · rw [if_pos h1]; simp
    · rw [if_neg h1]
      by_cases h2 : x = y
      · rw [if_pos h2]; subst h2; simp
      · rw [if_neg h2, List.mem_cons, mem_insU (l := r), List.mem_cons]
        constructor
        · rintro (h | h | h)
          · exact .inr (.inl h)
          · exact .inl h
          · exact .inr (.inr h)
        · rintro (h | h | h)
          · exact .inr (.inl h)
          · exact .inl h
          · exact .inr (.inr h)
theorem asc_insU {x : Int} : ∀ {l : List Int}, l.Pairwise (· < ·) → (insU x l).Pairwise (· < ·)
  | [], _ => by simp [insU]
  | y :: r, h => by
    rw [List.pairwise_cons] at h
    unfold insU
    by_cases h1 : x < y
    · rw [if_pos h1]
      refine List.pairwise_cons.mpr ⟨fun a ha => ?_, List.pairwise_cons.mpr h⟩
      rcases List.mem_cons.mp ha with rfl | ha
      · exact h1
      · exact Int.lt_trans h1 (h.1 a ha)
    · rw [if_neg h1]
      by_cases h2 : x = y
      · rw [if_pos h2]; exact List.pairwise_cons.mpr h
      · rw [if_neg h2]
        refine List.pairwise_cons.mpr ⟨fun a ha => ?_, asc_insU h.2⟩
        rcases mem_insU.mp ha with rfl | ha
        · omega
        · exact h.1 a ha
theorem mem_uniqI {a : Int} : ∀ {l : List Int}, a ∈ uniqI l ↔ a ∈ l
  | [] => by simp [uniqI]
  | x :: r => by rw [uniqI, mem_insU, mem_uniqI (l := r), List.mem_cons]
theorem asc_uniqI : ∀ (l : List Int), (uniqI l).Pairwise (· < ·)
  | [] => .nil
  | x :: r => asc_insU (asc_uniqI r)
theorem asc_ext : ∀ {l m : List Int}, l.Pairwise (· < ·) → m.Pairwise (· < ·) → (∀ k, k ∈ l ↔ k ∈ m) → l = m
  | [], [], _, _, _ => rfl
  | [], y :: m, _, _, h => absurd ((h y).mpr List.mem_cons_self) (by simp)
  | x :: l, [], _, _, h => absurd ((h x).mp List.mem_cons_self) (by simp)
  | x :: l, y :: m, hl, hm, h => by
    rw [List.pairwise_cons] at hl hm
    have e : x = y := by
      rcases List.mem_cons.mp ((h x).mp List.mem_cons_self) with e | hx
      · exact e
      · rcases List.mem_cons.mp ((h y).mpr List.mem_cons_self) with e | hy
        · exact e.symm
        · have h1 := hm.1 x hx
          have h2 := hl.1 y hy
          omega
    subst e
    congr 1
    refine asc_ext hl.2 hm.2 fun k => ⟨fun hk => ?_, fun hk => ?_⟩
    · rcases List.mem_cons.mp ((h k).mp (List.mem_cons_of_mem _ hk)) with e | hx
      · have := hl.1 k hk
        omega
      · exact hx
    · rcases List.mem_cons.mp ((h k).mpr (List.mem_cons_of_mem _ hk)) with e | hx
      · have := hm.1 k hk
        omega
      · exact hx
def dedup {α : Type} [DecidableEq α] : List α → List α
  | [] => []
  | x :: r => if x ∈ r then dedup r else x :: dedup r
section
variable {α : Type} [DecidableEq α]
theorem mem_dedup {a : α} : ∀ {l : List α}, a ∈ dedup l ↔ a ∈ l
  | [] => by simp [dedup]
  | x :: r => by
    rw [dedup]
    by_cases h : x ∈ r
    · rw [if_pos h, mem_dedup, List.mem_cons]
      exact ⟨.inr, fun q => q.elim (fun e => e ▸ h) id⟩
    · rw [if_neg h, List.mem_cons, List.mem_cons, mem_dedup]
theorem nodup_dedup : ∀ (l : List α), (dedup l).Nodup
  | [] => List.nodup_nil
  | x :: r => by
    rw [dedup]
    by_cases h : x ∈ r
    · rw [if_pos h]; exact nodup_dedup r
    · rw [if_neg h]
      exact List.nodup_cons.mpr ⟨fun q => h (mem_dedup.mp q), nodup_dedup r⟩
theorem dedup_le : ∀ (l : List α), (dedup l).length ≤ l.length
  | [] => Nat.le_refl _
  | x :: r => by
    rw [dedup]
    have := dedup_le r
    by_cases h : x ∈ r
    · rw [if_pos h, List.length_cons]; omega
    · rw [if_neg h, List.length_cons, List.length_cons]; omega
theorem dedup_all : ∀ {l : List α}, (dedup l).length = l.length → l.Nodup
  | [], _ => List.nodup_nil
  | x :: r, e => by
    rw [dedup] at e
    have := dedup_le r
    by_cases h : x ∈ r
    · rw [if_pos h, List.length_cons] at e; omega
    · rw [if_neg h, List.length_cons, List.length_cons] at e
      exact List.nodup_cons.mpr ⟨h, dedup_all (by omega)⟩
theorem dedup_nodup : ∀ {l : List α}, l.Nodup → dedup l = l
  | [], _ => rfl
  | x :: r, h => by
    rw [List.nodup_cons] at h
    rw [dedup, if_neg h.1, dedup_nodup h.2]
theorem nodup_len : ∀ {l m : List α}, l.Nodup → (∀ x ∈ l, x ∈ m) → l.length ≤ m.length
  | [], m, _, _ => Nat.zero_le _
  | x :: l, m, h, s => by
    rw [List.nodup_cons] at h
    have hx := s x List.mem_cons_self
    have := nodup_len (m := m.erase x) h.2 fun y hy => (List.mem_erase_of_ne (fun (q : y = x) => h.1 (by rw [← q]; exact hy))).mpr (s y (List.mem_cons_of_mem _ hy))
    rw [List.length_erase_of_mem hx] at this
    have : 0 < m.length := List.length_pos_of_mem hx
    rw [List.length_cons]
    omega
theorem nodup_len_eq {l m : List α} (h1 : l.Nodup) (h2 : m.Nodup) (h : ∀ x, x ∈ l ↔ x ∈ m) : l.length = m.length :=
  Nat.le_antisymm (nodup_len h1 fun x hx => (h x).mp hx) (nodup_len h2 fun x hx => (h x).mpr hx)
end
/-! ### set(xs), xs a list of ints -/
section
open PyProof.Rows
variable {P : Program} {w : World} {A : Around} {E : Value → Shared → Prop} {s : Shared}
set_option maxHeartbeats 6400000 in
theorem call_set_listI {l : Addr} {items : Array Value} (ns : List Int) {Q : Value → Shared → Prop} (hh : A.handled = none) (hl : s.heap.IsList l items) (hit : IntsAre items.toList ns) (hb : ns.length + 1 < scanBound)
    (h : ∀ (h' : Heap) (tk c : Nat), SetR w h' s.heap.objs.size (fun j => decide (j ∈ ns)) c → c ≤ ns.length → (∀ b o, s.heap.get? b = some o → h'.get? b = some o) → Q (.ref s.heap.objs.size) { s with heap := h', toks := tk }) :
    wpAny (model P w) A (call (.type "set") [.ref l]) Q E s := by
  have hisz : items.size = ns.length := by
    have q := IntsAre.length hit
    rw [Array.length_toList] at q
    exact q
  obtain ⟨c, tl, hmro⟩ := PySem.F.called_set.mro
  have hmade := PySem.F.called_set.made
  have hsub := PySem.F.called_set.sub
  refine wpAny_call (codeAny_of_tree ?_)
  show wpAny _ _ (callAny (.type "set") _) _ _ _
  refine wpAny_pure ⟨Code.quiet_builtin _ (by decide +kernel), codeAny_builtin PySem.F.entry_type_call ?_⟩
  rw [Around.under_plain (weight_type_call_type "set" [.ref l] []) rfl]
  have h1 := PySem.F.called_set.notType
  have h2 := PySem.F.called_set.canCreate
  have hct := PySem.F.typeCall_set_1 (.ref l)
  repeat (any_goals (first | assumption | wp_step))

  refine codeAny_mono (code_set_led1 (.ref l) (E := E) (Q₁ := fun obj s₁ => obj = .ref s.heap.objs.size ∧ s₁ = { s with heap := s.heap.push { cls := .type "set", dict := none, data := .set #[] 0 (.fresh 0 0 (!w.params.followText "set-order")) } }) ⟨rfl, rfl⟩) fun r s₁ hr => ?_
  cases r with
  | error e => exact hr
  | ok fl =>
    cases fl with
    | ret obj =>
      obtain ⟨rfl, rfl⟩ := hr
      have hS : (s.heap.push { cls := .type "set", dict := none, data := .set #[] 0 (.fresh 0 0 (!w.params.followText "set-order")) }).get? s.heap.objs.size = some { cls := .type "set", dict := none, data := .set #[] 0 (.fresh 0 0 (!w.params.followText "set-order")) } := Heap.get?_push_size _ rfl
      have hT : Shared.TypeIs { s with heap := s.heap.push { cls := .type "set", dict := none, data := .set #[] 0 (.fresh 0 0 (!w.params.followText "set-order")) } } (.ref s.heap.objs.size) "set" := ⟨_, hS, rfl⟩
      have hli := PySem.F.called_set.init.lookup
      have hbi := PySem.F.called_set.init.bind (.ref s.heap.objs.size)
      repeat (any_goals (first | assumption | wp_step))

      refine codeAny_mono (codeAny_call_builtin (R := wants (fun r s₂ => r = .none ∧ ∃ h' tk c, s₂ = { s with heap := h', toks := tk } ∧ SetR w h' s.heap.objs.size (fun j => decide (j ∈ ns)) c ∧ c ≤ ns.length ∧
          (∀ b o, s.heap.get? b = some o → h'.get? b = some o)) E) PySem.F.called_set.init.plain PySem.F.entry_set_init (check_set_init_1 hT ?_)) fun r₂ s₂ hr₂ => ?_
      · obtain ⟨ol, hol, hcl, nl, hdl⟩ := hl
        obtain ⟨ocls, odict, odata, oslots⟩ := ol
        simp only at hcl hdl
        subst hcl; subst hdl
        have hol' : (s.heap.push { cls := .type "set", dict := none, data := .set #[] 0 (.fresh 0 0 (!w.params.followText "set-order")) }).get? l = some { cls := .type "list", dict := odict, data := .seq items nl, slots := oslots } := Heap.get?_push_of_some _ hol
        have hsls := PySem.F.sub_list_set
        have hslf := PySem.F.sub_list_frozenset
        have hne : (Value.type "list" == Value.type "dict") = false := by decide
        have hl1 : (s.heap.push { cls := .type "set", dict := none, data := .set #[] 0 (.fresh 0 0 (!w.params.followText "set-order")) }).IsList l items := ⟨_, hol', rfl, nl, rfl⟩
        unfold Builtin.«set.__init__» noKeywords Builtin.Frozenset.updateFrom
        generalize hPI : pyIter = PI
        wp_walk
        subst hPI

        refine wpAny_pyIter_list hl1 ?_
        refine wpAny_bind (wpAny_runValue ?_)
        have hlS : l < s.heap.objs.size := Heap.lt_size hol
        have hh3 : A.in1.in1.in1.handled = none := by simp [hh]
        have hz1 : (s.heap.push { cls := .type "set", dict := none, data := .set #[] 0 (.fresh 0 0 (!w.params.followText "set-order")) }).objs.size = s.heap.objs.size + 1 := Heap.size_push ..
        have hneI : l ≠ (s.heap.push { cls := .type "set", dict := none, data := .set #[] 0 (.fresh 0 0 (!w.params.followText "set-order")) }).objs.size := by
          rw [Heap.size_push]; exact Nat.ne_of_lt (Nat.lt_succ_of_lt hlS)
        have hSf : s.heap.objs.size ∉ [(s.heap.push { cls := .type "set", dict := none, data := .set #[] 0 (.fresh 0 0 (!w.params.followText "set-order")) }).objs.size, l] := by
          rw [Heap.size_push]; simp only [List.mem_cons, List.mem_singleton, List.not_mem_nil, or_false, not_or]
          exact ⟨Nat.ne_of_lt (Nat.lt_succ_self _), Nat.ne_of_gt hlS⟩
        have hval : ∀ (i : Nat) (v : Value), items[i]? = some v → ∃ k t, ns[i]? = some k ∧ v = .int k t := fun i v hv => by
          have hi : i < ns.length := by rw [← hisz]; exact (Array.getElem?_eq_some_iff.mp hv).1
          obtain ⟨t, e⟩ := PyProof.Rows.IntsAre.int_at hit i v (by rw [Array.getElem?_toList]; exact hv)
          refine ⟨ns[i], t, List.getElem?_eq_getElem hi, ?_⟩
          rw [e, List.getD_eq_getElem?_getD, List.getElem?_eq_getElem hi] <;> rfl
        refine set_update_ints ((Walks.list hh3 _ l hneI items).toS) s.heap.objs.size
          hSf ns hisz hb hval (items.size - 0) 0 _ (by omega) (Nat.zero_le _)
          ⟨⟨_, Heap.get?_push_size _ rfl, rfl, rfl⟩, (hl1.push _)⟩ ?hS0 ?hR
        case hS0 =>
          have hget : ((s.heap.push { cls := .type "set", dict := none, data := .set #[] 0 (.fresh 0 0 (!w.params.followText "set-order")) }).push { cls := .type "list_iterator", data := .fields #[.ref l, .int 0 0] }).get? s.heap.objs.size
              = some { cls := .type "set", dict := none, data := .set #[] 0 (.fresh 0 0 (!w.params.followText "set-order")) } := Heap.get?_push_of_some _ hS
          exact ⟨0, Nat.le_refl 0, setR_new_at hget⟩
        case hR =>
          intro s' c' hm hc' hS'
          obtain ⟨h', g2, d', tk', os'⟩ := s'
          have eg : g2 = s.gens := hm.gens
          have ed : d' = s.drawn := hm.drawn
          have eo : os' = s.os := hm.os
          subst eg; subst ed; subst eo
          show wpAny _ _ _ _ _ _
          refine wpAny_pure ?_
          show wpAny _ _ (ret Value.none) _ _ _
          rw [hisz] at hc'
          refine wpAny_pure ⟨rfl, h', tk', c', rfl, hS', hc', fun b o e => ?_⟩
          have hb0 : b < s.heap.objs.size := Heap.lt_size e
          have hb1 : b ≠ s.heap.objs.size := Nat.ne_of_lt hb0
          have hb2 : b ≠ (s.heap.push { cls := .type "set", dict := none, data := .set #[] 0 (.fresh 0 0 (!w.params.followText "set-order")) }).objs.size := by
            rw [Heap.size_push]; exact Nat.ne_of_lt (Nat.lt_succ_of_lt hb0)
          exact hm.heap b o (by simp only [List.mem_cons, List.mem_singleton, List.not_mem_nil, or_false, not_or]; exact ⟨hb1, hb2⟩) (Heap.get?_push_of_some _ (Heap.get?_push_of_some _ e))

      · cases r₂ with
        | error e => exact hr₂
        | ok fl₂ =>
          cases fl₂ with
          | ret r =>
            obtain ⟨rfl, h', tk, c', rfl, hS', hc', hk'⟩ := hr₂
            repeat (any_goals (first | assumption | wp_step))
            exact h _ _ _ hS' hc' hk'
          | _ => exact hr₂.elim
    | _ => exact hr.elim
end
section
variable {X : Cx}
def rSetI (K : PySem.W.Frag) (w : World) : List V → Hp → VK → Prop := fun xs H Q => ∃ (l : Addr) (ns : List Int), xs = [V.ref l] ∧ SqL K H l (ns.map V.int) ∧ ns.length ≤ 4000 ∧
  ∀ (a : Addr) (n : Nat) (ks : List Int), H a = none → ks.Nodup → (∀ k, k ∈ ks ↔ k ∈ ns) → ks.length = n → Q (.ref a) (upd H a (SetO w a (fun j => decide (j ∈ ns)) n))
theorem cr_setI (hc : X.calm = true) : CallR X (.type "set") (rSetI X.K X.w) := by
  intro pins s σ H xs us Q I r h
  obtain ⟨l, ns, rfl, hl, hf, q⟩ := h
  rw [Vals.ref1 r]
  obtain ⟨its, rv, pl, hz⟩ := I.list hl
  have hn : H s.heap.objs.size = none := I.hok.fresh (Nat.le_refl _)
  refine call_set_listI ns (I.ok.hd hc) pl.isList (by simpa using ints_of_vals rv) (by unfold scanBound; omega) fun h' tk c R hle k => ?_
  obtain ⟨o, es, ep, t, ho, hx, hd, hg, nd, hS, hb, hf', hn', _⟩ := id R
  refine ⟨.ref s.heap.objs.size, upd H s.heap.objs.size (SetO X.w s.heap.objs.size (fun j => decide (j ∈ ns)) c), I.laid (t' := tk) k (Nat.le_refl _) (setO_new R), rfl, q _ c (es.toList.map keyOf) hn nd (fun k => ?_) (by rw [List.length_map, Array.length_toList, hn'])⟩
  rw [← hS k, decide_eq_true_eq]
end
/-! ### the rules over data -/
section
variable {X : Cx} {z : Z} {K : PySem.W.Frag} {T : List Addr} {R : List RowP} {H0 M0 H M : Hp} {σ : L2.St} {δ : DS} {e a : Expr} {te tk tv : TED} {pos p q : Pos}
def dSetSort (te : TED) : TED := fun δ Q => te δ fun e δ' => ∃ l ns, e = .d (.list l) ∧ intsOf l = some ns ∧ ns.length ≤ 4000 ∧ (uniqI ns).length < 64 ∧ Q (.d (.list ((uniqI ns).map .int))) δ'
theorem pd_setSort (hc : X.calm = true) (hg : Gl X "sorted") (hm : X.mg "sorted" = none) (hg2 : Gl X "set") (hm2 : X.mg "set" = none) (h : PD X z a te)
    (na : starEach [a] X.env = (false, eval a X.env) :: starEach [] X.env := by rfl) (nb : starEach [.Call (.Name "set" q) [a] [] p] X.env = (false, eval (.Call (.Name "set" q) [a] [] p) X.env) :: starEach [] X.env := by rfl)
    {p1 pos : Pos} (h1 : (backTo p (starEach [] X.env)).any (·.1) = false := by rfl) (h2 : (backTo pos (starEach [] X.env)).any (·.1) = false := by rfl) :
    PD X z (.Call (.Name "sorted" p1) [.Call (.Name "set" q) [a] [] p] [] pos) (dSetSort te) :=
  PE.imp (pe_callB (cr_sortedSet hc) hg hm bt_sorted (pa_cons (pe_callTy (cr_setI hc) hg2 hm2 PyProof.Rows.boot_set (pa_cons h pa_nil na) (by decide) (by decide) na h1) pa_nil nb) (by decide) (by decide) nb h2)
    fun σ H Q ⟨R, H0, M0, M, δ, QD, hO, W, S, ht, hQ⟩ => ⟨R, H0, M0, M, δ, _, hO, W, S, ht, fun e δ' v H' M' q W' s' S' r => by
      obtain ⟨l, ns, rfl, hl, h4, h64, q⟩ := q
      obtain rfl := intsOf_eq hl
      obtain ⟨b, ys, rfl, hb, z2, r2⟩ := (Rv.d r).lst W'.sub
      have ey := r2.ints
      subst ey
      refine ⟨b, ns, rfl, .of hb, h4, fun a n ks ha nd mem len => ?_⟩
      have elen : (uniqI ns).length = n := by
        rw [← len]
        exact nodup_len_eq ((asc_uniqI ns).imp fun h => Int.ne_of_lt h) nd fun k => by rw [mem_uniqI, mem k]
      refine ⟨a, _, n, rfl, upd_same, by rw [← elen]; exact h64, fun ms p hms hmem hlen hp => ?_⟩
      have hp' : H' p = none := by
        by_cases e : p = a
        · rw [e, upd_same] at hp; cases hp
        · rw [upd_ne e] at hp; exact hp
      have em : ms = uniqI ns := asc_ext hms (asc_uniqI ns) fun k => by rw [hmem k, mem_uniqI, decide_eq_true_eq]
      subst em
      have W2 := W'.refl.lay (o := SetO X.w a (fun j => decide (j ∈ ns)) n) ha
      have W3 := (W2.alloc (o := .lst ((uniqI ns).map V.int)) hp trivial)
      have s3 : Same M' (upd M' p (.lst ((uniqI ns).map V.int))) := same_upd (W'.newM hp')
      exact hQ _ _ _ _ _ q (W'.trans W3) (s'.trans s3) (S'.ext W' W3) (.lst upd_same (by rw [List.length_map]; have := PySem.sizeLine_eq; omega) (.ofInts _))⟩
/-- len(set(xs)), xs a list of tuples of ints -/
def tupI : PyData → Option (List Int)
  | .tuple l => intsOf l
  | _ => none
def tupsOf : List PyData → Option (List (List Int))
  | [] => some []
  | x :: r => match tupI x, tupsOf r with
    | some a, some b => some (a :: b)
    | _, _ => none
theorem tupsOf_map : ∀ ks : List (List Int), tupsOf (ks.map fun c => .tuple (c.map .int)) = some ks
  | [] => rfl
  | k :: r => by rw [List.map_cons, tupsOf, tupsOf_map r, tupI, intsOf_map]
theorem tups_sq {M : Hp} {H : Hp} (s : Same M H) : ∀ {l : List PyData} {xs : List V} {ks : List (List Int)}, RpA M xs l → tupsOf l = some ks → ∃ ps : List (Addr × List Int), xs = ps.map (fun p => V.ref p.1) ∧ ps.map (·.2) = ks ∧ ∀ p ∈ ps, SqT K H p.1 (p.2.map V.int)
  | _, _, ks, .nil, e => by
    rw [tupsOf] at e
    cases e
    exact ⟨[], rfl, rfl, fun p hp => by cases hp⟩
  | d :: l, v :: xs, ks, .cons h r, e => by
    rw [tupsOf] at e
    cases e1 : tupI d with
    | none => rw [e1] at e; cases e
    | some c =>
      cases e2 : tupsOf l with
      | none => rw [e1, e2] at e; cases e
      | some cs =>
        rw [e1, e2] at e
        cases e
        obtain ⟨ps, rfl, rfl, hp⟩ := tups_sq s r e2
        match d, h, e1 with
        | .tuple m, h, e1 =>
          obtain rfl := intsOf_eq (show intsOf m = some c from e1)
          obtain ⟨b, ys, rfl, hb, z2, r2⟩ := (Rv.d (H := H) h).tup
          have ey := r2.ints
          subst ey
          exact ⟨(b, c) :: ps, rfl, rfl, fun p hp' => by
            rcases List.mem_cons.mp hp' with rfl | hp'
            · exact .of (s _ _ hb)
            · exact hp p hp'⟩
def dLenSetT (te : TED) : TED := fun δ Q => te δ fun e δ' => ∃ l ks, e = .d (.list l) ∧ tupsOf l = some ks ∧ ks.length < 64 ∧ Q (.d (.int (dedup ks).length)) δ'
def rLenT (P : Program) (w : World) : List V → Hp → VK → Prop := fun xs H Q => ∃ (a : Addr) (L : List (Addr × List Int)), xs = [V.ref a] ∧ H a = some (SetTO P w a L) ∧ ((L.map (·.2)).Nodup → Q (.int (L.length : Nat)) H)
theorem cr_lenT : CallR X (.builtin "len") (rLenT X.prog X.w) := by
  intro pins s σ H xs us Q I r h
  obtain ⟨a, L, rfl, ha, q⟩ := h
  rw [Vals.ref1 r]
  have R0 : SetT0 X.prog X.w s.heap a L := (I.hok a _ ha).1
  obtain ⟨es, ep, t, ⟨o, ho, hx, hd⟩, hr, hT, nd, hp, hl, hroom, hfew⟩ := R0.ex
  have hn : es.size = L.length := by
    rw [← Array.length_toList, hr]
    simp [rowsOf]
  have hf : t.fits es.size = true := by
    have h1 := hT.sz
    rw [List.length_map] at h1
    unfold SetTable.fits SetTable.fill
    rw [hT.dm, Bool.and_eq_true, beq_iff_eq, decide_eq_true_eq]
    show t.place.size = es.size ∧ t.place.size + 0 ≤ t.mask
    omega
  refine call_len_set ho hx hd hf (by rw [hn]; omega) ⟨.int (L.length : Nat), H, I.tok _, ⟨_, by rw [hn]⟩, q nd⟩
theorem pd_lenSetT {p1 : Pos} (hu : X.A.units + 64 < cLine) (hc : X.calm = true) (hg : Gl X "len") (hm : X.mg "len" = none) (hg2 : Gl X "set") (hm2 : X.mg "set" = none) (h : PD X z a te)
    (na : starEach [a] X.env = (false, eval a X.env) :: starEach [] X.env := by rfl) (nb : starEach [.Call (.Name "set" q) [a] [] p] X.env = (false, eval (.Call (.Name "set" q) [a] [] p) X.env) :: starEach [] X.env := by rfl)
    (h1 : (backTo p (starEach [] X.env)).any (·.1) = false := by rfl) (h2 : (backTo pos (starEach [] X.env)).any (·.1) = false := by rfl) :
    PD X z (.Call (.Name "len" p1) [.Call (.Name "set" q) [a] [] p] [] pos) (dLenSetT te) :=
  PE.imp (pe_callB cr_lenT hg hm bt_len (pa_cons (pe_callTy (cr_setOfT hc hu) hg2 hm2 PyProof.Rows.boot_set (pa_cons h pa_nil na) (by decide) (by decide) na h1) pa_nil nb) (by decide) (by decide) nb h2)
    fun σ H Q ⟨R, H0, M0, M, δ, QD, hO, W, S, ht, hQ⟩ => ⟨R, H0, M0, M, δ, _, hO, W, S, ht, fun e δ' v H' M' q W' s' S' r => by
      obtain ⟨l, ks, rfl, hl, h64, q⟩ := q
      obtain ⟨b, ys, rfl, hb, z2, r2⟩ := (Rv.d r).lst W'.sub
      obtain ⟨ps, rfl, rfl, hps⟩ := tups_sq (K := X.K) W'.sub r2 hl
      refine ⟨b, ps, rfl, .of hb, hps, by rw [List.length_map] at h64; exact h64, fun a L ha hsub hall => ?_⟩
      refine ⟨a, L, rfl, upd_same, fun nd => ?_⟩
      have W2 := W'.refl.lay (o := SetTO X.prog X.w a L) ha
      have e : (L.length : Nat) = (dedup (ps.map (·.2))).length := by
        rw [← List.length_map (f := (·.2)) (as := L)]
        refine nodup_len_eq nd (nodup_dedup _) fun k => ?_
        rw [mem_dedup]
        constructor
        · intro hk
          obtain ⟨p, hp, rfl⟩ := List.mem_map.mp hk
          exact List.mem_map.mpr ⟨p, hsub p hp, rfl⟩
        · intro hk
          obtain ⟨p, hp, rfl⟩ := List.mem_map.mp hk
          exact hall p hp
      rw [e]
      exact hQ _ _ _ _ _ q (W'.trans W2) s' (S'.ext W' W2) (.int _)⟩
/-! ### dicts whose keys are ints -/
def putKD (L : List (Key × PyData)) (k : Key) (x : PyData) : List (Key × PyData) := if (L.any fun p => decide (p.1 = k)) = true then L.map (fun p => if p.1 = k then (p.1, x) else p) else L ++ [(k, x)]
theorem kput_any (k : Key) : ∀ {L : List (Key × PyData)} {xs : List V}, RpA M xs (L.map (·.2)) → (((L.map (·.1)).zip xs).any fun kv => decide (kv.1 = k)) = L.any fun p => decide (p.1 = k)
  | [], _, r => by cases r; rfl
  | p :: L, _, r => by
    cases r with
    | cons h r => simp only [List.map_cons, List.zip_cons_cons, List.any_cons, kput_any k r]
theorem kput_map {k : Key} {v : V} {x : PyData} (rv : Rp M v x) : ∀ {L : List (Key × PyData)} {xs : List V}, RpA M xs (L.map (·.2)) → ∃ ys, ((L.map (·.1)).zip xs).map (fun kv => if kv.1 = k then (kv.1, v) else kv) = ((L.map (fun p => if p.1 = k then (p.1, x) else p)).map (·.1)).zip ys ∧
    RpA M ys ((L.map (fun p => if p.1 = k then (p.1, x) else p)).map (·.2))
  | [], _, r => by cases r; exact ⟨[], rfl, .nil⟩
  | p :: L, _, r => by
    cases r with
    | @cons u us _ _ h r =>
      obtain ⟨ys, e, r2⟩ := kput_map (k := k) rv r
      by_cases hk : p.1 = k
      · refine ⟨v :: ys, ?_, ?_⟩
        · simp only [List.map_cons, List.zip_cons_cons, hk, if_true, e]
        · simp only [List.map_cons, hk, if_true]
          exact .cons rv r2
      · refine ⟨u :: ys, ?_, ?_⟩
        · simp only [List.map_cons, List.zip_cons_cons, hk, if_false, e]
        · simp only [List.map_cons, hk, if_false]
          exact .cons h r2
theorem kput_zip {k : Key} {v : V} {x : PyData} (rv : Rp M v x) {L : List (Key × PyData)} {xs : List V} (r : RpA M xs (L.map (·.2))) :
    ∃ ys, putK ((L.map (·.1)).zip xs) k v = ((putKD L k x).map (·.1)).zip ys ∧ RpA M ys ((putKD L k x).map (·.2)) := by
  unfold putK putKD
  rw [kput_any k r]
  by_cases h : (L.any fun p => decide (p.1 = k)) = true
  · rw [if_pos h, if_pos h]
    exact kput_map rv r
  · rw [if_neg h, if_neg h]
    have hl : xs.length = L.length := by have := r.length; rw [List.length_map] at this; exact this
    refine ⟨xs ++ [v], ?_, ?_⟩
    · rw [List.map_append, List.zip_append (by rw [List.length_map, hl])]
      rfl
    · rw [List.map_append]
      exact r.append (.one rv)
theorem putKD_length (L : List (Key × PyData)) (k : Key) (x : PyData) : (putKD L k x).length ≤ L.length + 1 := by
  unfold putKD
  split
  · rw [List.length_map]; omega
  · rw [List.length_append, List.length_cons, List.length_nil]; omega
theorem Slots.own_k {i : Nat} {L : List (Key × PyData)} (S : Slots R H0 H M σ δ) (e : δ[i]? = some (some (.oK L))) : ∃ a xs, σ[i]? = some (some (.ref a)) ∧ H a = some (.dK ((L.map (·.1)).zip xs)) ∧ RpA M xs (L.map (·.2)) ∧ H0 a = none ∧ M a = none := by
  obtain ⟨v, e1, ⟨a, xs, rfl, h, r⟩, o⟩ := S.at_ i _ e
  obtain ⟨a', ea, n, hM⟩ := o rfl
  cases ea
  exact ⟨a, xs, e1, h, r, n, hM⟩
def fKnew : TFD := fun δ Q => Q (.oK []) δ
theorem pf_knew : PFD X z (.Dict [] [] pos) fKnew :=
  PE.imp pe_dnewK fun σ H Q ⟨R, H0, M0, M, δ, QD, hO, W, S, ht, hQ⟩ p hp => by
    obtain ⟨W2, S2, h0, hM, na⟩ := fresh_lay (o := .dK []) W S hp
    exact hQ _ _ _ _ _ ht rfl W2 (Same.refl _) S2 ⟨p, [], rfl, upd_same, .nil⟩ h0 hM na
def dKput (i : Nat) (tk tv : TED) : TSD := fun E δ => tv δ fun ev δ1 => (∃ L, look δ1 i = some (.oK L)) ∧ tk δ1 fun ek δ2 => ∃ L k y x, look δ2 i = some (.oK L) ∧ ek = .d (.int k) ∧ cont δ2 ev = some y ∧ y = .d x ∧ L.length < sizeLine ∧ E.nx (δ2.set i (some (.oK (putKD L (.inl k) x))))
theorem psd_kput {i : Nat} {o a v : Expr} {tk tv : TED} {tpos : Pos} (hu : X.A.units + 64 < cLine) (ho : PE X o (tVar i)) (hk : PD X z a tk) (hv : PD X z v tv) (hs : swapsWith v (some (.Subscript o a tpos)) pos.line X.env = pure false := by rfl) :
    PSD X z (.Assign [.Subscript o a tpos] v pos) (dKput i tk tv) :=
  PS.imp (ps_dput (by omega) ho hk hv hs) fun D σ H ⟨R, H0, M0, Mb, M, δ, ED, hO, W, sb, S, ht, hD⟩ => ⟨R, H0, M0, M, δ, _, hO, W, S, ht, fun e1 δ1 v1 H1 M1 q1 W1 s1 S1 r1 => by
    obtain ⟨⟨L1, hL1⟩, q1⟩ := q1
    obtain ⟨p, xs1, hσ, hp1, _, _, _⟩ := S1.own_k (look_some hL1)
    refine ⟨.ref p, hσ, R, H0, M0, M1, δ1, _, hO, W1, S1, q1, fun e2 δ2 v2 H2 M2 q2 W2 s2 S2 r2 => ?_⟩
    obtain ⟨L, k, y, x, hl, rfl, hc, rfl, hz, q⟩ := q2
    obtain ⟨p', xs, hσ', hp, rp, n, hM⟩ := S2.own_k (look_some hl)
    rw [hσ] at hσ'
    cases hσ'
    obtain rfl : v2 = .int k := r2.int_eq
    have rv : Rp M2 v1 x := (r1.mono s2).cont S2 hc
    obtain ⟨ys, e, rp'⟩ := kput_zip (k := Sum.inl k) rv rp
    have hl' : xs.length = L.length := by have := rp.length; rw [List.length_map] at this; exact this
    refine ⟨p, _, rfl, DPut.k (k := .inl k) hp (by rw [List.length_zip, List.length_map, hl', Nat.min_self]; exact hz), ?_⟩
    rw [e]
    have W3 := W2.write (o' := .dK (((putKD L (.inl k) x).map (·.1)).zip ys)) hp n hM (fun ps q => by cases q)
    have S3 := S2.write (o' := .dK (((putKD L (.inl k) x).map (·.1)).zip ys)) (y := .oK (putKD L (.inl k) x)) (look_some hl) rfl hσ rfl ⟨p, ys, rfl, upd_same, rp'⟩
    exact hD.nx _ σ _ M2 q W3 ((sb.trans s1).trans s2) S3⟩
/-- x, y, w = a, b, []: w's owned; the names may be seen from inside -/
theorem psd_par3FG {b : Expr} {ta tb : TED} {px py pz pt pt2 : Pos} {kt k2 : Nat} {i j l : Nat} {x y w : Str} {p1 : Pos} (hc : X.calm = true) (h1 : PG X (.Name x px) (gName i)) (h2 : PG X (.Name y py) (gName j)) (h3 : PG X (.Name w pz) (gName l)) (ha : PD X z a ta) (hb : PD X z b tb)
    (hs : swapsWithSole [.Tuple [.Name x px, .Name y py, .Name w pz] kt pt] (.Tuple [a, b, .List [] p1] k2 pt2) pos.line X.env = pure false := by rfl)
    (hw : swappedStores [.Tuple [.Name x px, .Name y py, .Name w pz] kt pt] (.Tuple [a, b, .List [] p1] k2 pt2) X.env = pure none := by rfl)
    (he : starEach [a, b, .List [] p1] X.env = (false, eval a X.env) :: starEach [b, .List [] p1] X.env := by rfl) (he2 : starEach [b, .List [] p1] X.env = (false, eval b X.env) :: starEach [.List [] p1] X.env := by rfl)
    (he3 : starEach [.List [] p1] X.env = (false, eval (.List [] p1) X.env) :: starEach [] X.env := by rfl)
    (hn : (assignEach [.Name x px, .Name y py, .Name w pz] X.env).length = 3 := by rfl) (hst : (assignEach [.Name x px, .Name y py, .Name w pz] X.env).findIdx? (·.1) = none := by rfl)
    (ge1 : (assignEach [.Name x px, .Name y py, .Name w pz] X.env).map (·.2) = assign (.Name x px) X.env :: (assignEach [.Name y py, .Name w pz] X.env).map (·.2) := by rfl)
    (ge2 : (assignEach [.Name y py, .Name w pz] X.env).map (·.2) = assign (.Name y py) X.env :: (assignEach [.Name w pz] X.env).map (·.2) := by rfl)
    (ge3 : (assignEach [.Name w pz] X.env).map (·.2) = assign (.Name w pz) X.env :: (assignEach [] X.env).map (·.2) := by rfl)
    (h1' : (assignEach [.Tuple [.Name x px, .Name y py, .Name w pz] kt pt] X.env).map (·.2) = [assign (.Tuple [.Name x px, .Name y py, .Name w pz] kt pt) X.env] := by rfl) :
    PSD X z (.Assign [.Tuple [.Name x px, .Name y py, .Name w pz] kt pt] (.Tuple [a, b, .List [] p1] k2 pt2) pos) (dPar3F i j l ta tb (fLst dNil)) :=
  PS.imp (ps_asg (pe_tup (pa_cons ha (pa_cons hb (pa_cons (pe_lst pa_nil) pa_nil he3) he2) he)) (pg_tup hc (pgs_cons h1 (pgs_cons h2 (pgs_cons h3 pgs_nil ge3) ge2) ge1) hn hst) hs hw h1') fun D σ H ⟨R, H0, M0, Mb, M, δ, ED, hO, W, sb, S, ht, hD⟩ => ⟨R, H0, M0, M, δ, _, hO, W, S, ht, fun e1 δ1 v1 H1 M1 q1 W1 s1 S1 r1 => ⟨R, H0, M0, M1, δ1, _, hO, W1, S1, q1, fun e2 δ2 v2 H2 M2 q2 W2 s2 S2 r2 => by
    obtain ⟨xs, hd, _, x, y, rfl, rfl, q⟩ := q2
    have hd' : xs = [] := by
      have : some [] = some xs := hd
      exact (Option.some.inj this).symm
    subst hd'
    refine ⟨Nat.zero_le _, fun p hp => ⟨(by show 3 ≤ sizeLine; decide), fun t htf => ?_⟩⟩
    have hnt : p ≠ t := fun e => by subst e; rw [upd_same] at htf; cases htf
    obtain ⟨W3, S3, h0, hM, na⟩ := fresh_lay (o := .lst []) W2 S2 hp
    have W4 := W3.refl.lay (o := .tup [v1, v2, .ref p]) htf
    have S3b := S3.ext W3 W4
    have W34 := W3.trans W4
    refine ⟨t, _, rfl, .inl (.inl upd_same), rfl, v1, _, rfl, v2, _, rfl, .ref p, _, rfl, rfl, ?_⟩
    have S4 := S3b.set i (r1.mono s2)
    have S5 := S4.set j r2
    have S6 := S5.setOwn (H0 := H0) l (a := p) (x := .own []) rfl ⟨p, [], rfl, by rw [upd_ne hnt]; exact upd_same, Nat.zero_le _, .nil⟩ h0 hM ((na.set S3.len).set S4.len)
    exact hD.nx _ _ _ _ q W34 (sb.trans (s1.trans s2)) S6⟩⟩
def keysI : List (Key × PyData) → Option (List Int)
  | [] => some []
  | (.inl i, _) :: r => (keysI r).map (i :: ·)
  | (.inr _, _) :: _ => none
theorem keysI_eq : ∀ {L : List (Key × PyData)} {ks : List Int}, keysI L = some ks → L.map (·.1) = ks.map Sum.inl
  | [], ks, e => by rw [keysI] at e; cases e; rfl
  | (.inl i, x) :: r, ks, e => by
    rw [keysI] at e
    cases h : keysI r with
    | none => rw [h] at e; cases e
    | some k => rw [h] at e; cases e; rw [List.map_cons, List.map_cons, keysI_eq h]
  | (.inr _, x) :: r, ks, e => by rw [keysI] at e; cases e
/-- sorted(d), d one's own -/
def dSortK (i : Nat) : TED := fun δ Q => ∃ L ks, look δ i = some (.oK L) ∧ keysI L = some ks ∧ ks.length < 64 ∧ ∀ ys : List Int, ys.Perm ks → ys.Pairwise (· ≤ ·) → Q (.d (.list (ys.map .int))) δ
theorem pd_sortK {i : Nat} {o : Expr} (hc : X.calm = true) (hg : Gl X "sorted") (hm : X.mg "sorted" = none) (ho : PE X o (tVar i)) (nb : starEach [o] X.env = (false, eval o X.env) :: starEach [] X.env := by rfl) (h2 : (backTo pos (starEach [] X.env)).any (·.1) = false := by rfl) :
    PD X z (.Call (.Name "sorted" p) [o] [] pos) (dSortK i) :=
  PE.imp (pe_callB (call_sortedDI hc) hg hm bt_sorted (pa_cons ho pa_nil nb) (by decide) (by decide) nb h2) fun σ H Q ⟨R, H0, M0, M, δ, QD, hO, W, S, ht, hQ⟩ => by
    obtain ⟨L, ks, hl, hk, h64, q⟩ := ht
    obtain ⟨a, xs, hσ, ha, rp, n, hM⟩ := S.own_k (look_some hl)
    have hl' : xs.length = L.length := by have := rp.length; rw [List.length_map] at this; exact this
    refine ⟨.ref a, hσ, a, _, ks, rfl, .of ha, ?_, h64, fun ys p hp hs hn => ?_⟩
    · rw [List.map_fst_zip (by rw [List.length_map, hl']; exact Nat.le_refl _)]
      exact keysI_eq hk
    · have W2 := W.refl.alloc (o := .lst (ys.map V.int)) hn trivial
      exact hQ _ _ _ _ _ (q ys hp hs) (W.trans W2) W2.m0 (S.ext W W2) (.lst upd_same (by rw [List.length_map, hp.length_eq]; have := PySem.sizeLine_eq; omega) (.ofInts _))
end
/-! ### the readings as computations -/
section
variable {a0 : Option DV} {δ : DS} {te tk tv : TED} {QE : EV → DS → Prop} {QF : DV → DS → Prop} {E : DEnds} {i : Nat}
def ownK (o : Option DV) (k : List (Key × PyData) → Prop) : Prop := ∃ l, o = some (.oK l) ∧ k l
theorem ownK_o {l : List (Key × PyData)} {k : List (Key × PyData) → Prop} : ownK (some (.oK l)) k = k l := by simp [ownK]
theorem v_fknew : fKnew (a0 :: δ) QF = QF (.oK []) (a0 :: δ) := rfl
theorem v_sortK : dSortK i (a0 :: δ) QE = ownK (look (a0 :: δ) i) fun L => opt (keysI L) fun ks => ks.length < 64 ∧ ∀ ys : List Int, ys.Perm ks → ys.Pairwise (· ≤ ·) → QE (.d (.list (ys.map .int))) (a0 :: δ) := by
  unfold dSortK ownK opt
  apply propext
  constructor
  · rintro ⟨L, ks, h1, h2, h3⟩; exact ⟨L, h1, ks, h2, h3⟩
  · rintro ⟨L, h1, ks, h2, h3⟩; exact ⟨L, ks, h1, h2, h3⟩
theorem v_setSort : dSetSort te (a0 :: δ) QE = te (a0 :: δ) fun e δ' => isD e fun x => isL x fun l => opt (intsOf l) fun ns => ns.length ≤ 4000 ∧ (uniqI ns).length < 64 ∧ QE (.d (.list ((uniqI ns).map .int))) δ' := by
  unfold dSetSort isD isL opt
  congr 1; funext e δ'
  apply propext
  constructor
  · rintro ⟨l, ns, rfl, h1, h2⟩; exact ⟨_, rfl, l, rfl, ns, h1, h2⟩
  · rintro ⟨_, rfl, l, rfl, ns, h1, h2⟩; exact ⟨l, ns, rfl, h1, h2⟩
theorem v_lenSetT : dLenSetT te (a0 :: δ) QE = te (a0 :: δ) fun e δ' => isD e fun x => isL x fun l => opt (tupsOf l) fun ks => ks.length < 64 ∧ QE (.d (.int (dedup ks).length)) δ' := by
  unfold dLenSetT isD isL opt
  congr 1; funext e δ'
  apply propext
  constructor
  · rintro ⟨l, ns, rfl, h1, h2⟩; exact ⟨_, rfl, l, rfl, ns, h1, h2⟩
  · rintro ⟨_, rfl, l, rfl, ns, h1, h2⟩; exact ⟨l, ns, rfl, h1, h2⟩
theorem v_kput : dKput i tk tv E (a0 :: δ) = tv (a0 :: δ) fun ev δ1 => ownK (look δ1 i) fun _ => tk δ1 fun ek δ2 => ownK (look δ2 i) fun L => isD ek fun d => isI d fun k => opt (cont δ2 ev) fun y => isDV y fun x => L.length < sizeLine ∧ E.nx (δ2.set i (some (.oK (putKD L (.inl k) x)))) := by
  unfold dKput ownK isD isI opt isDV
  congr 1; funext ev δ1
  have h : (fun (ek : EV) (δ2 : DS) => ∃ L k y x, look δ2 i = some (.oK L) ∧ ek = .d (.int k) ∧ cont δ2 ev = some y ∧ y = .d x ∧ L.length < sizeLine ∧ E.nx (δ2.set i (some (.oK (putKD L (.inl k) x))))) =
      fun ek δ2 => ∃ L, look δ2 i = some (.oK L) ∧ ∃ d, ek = .d d ∧ ∃ k, d = .int k ∧ ∃ y, cont δ2 ev = some y ∧ ∃ x, y = .d x ∧ L.length < sizeLine ∧ E.nx (δ2.set i (some (.oK (putKD L (.inl k) x)))) := by
    funext ek δ2
    apply propext
    constructor
    · rintro ⟨L, k, y, x, h1, rfl, h2, rfl, h3⟩; exact ⟨L, h1, _, rfl, k, rfl, _, h2, x, rfl, h3⟩
    · rintro ⟨L, h1, _, rfl, k, rfl, _, h2, x, rfl, h3⟩; exact ⟨L, k, _, x, h1, rfl, h2, rfl, h3⟩
  rw [h]
  apply propext
  constructor
  · rintro ⟨⟨L, h1⟩, q⟩; exact ⟨L, h1, q⟩
  · rintro ⟨L, h1, q⟩; exact ⟨⟨L, h1⟩, q⟩
end
end DL
/-! Clubs, pairs, towns as data. -/
namespace Tw
open PySem PySem.Spec L2 DL
abbrev encC (c : List Int) : PyData := .tuple (c.map .int)
abbrev encP (p : Int × Int) : PyData := .tuple [.int p.1, .int p.2]
abbrev encT (n : Int) (cs : List (List Int)) : PyData := .tuple [.int n, .tuple (cs.map encC)]
theorem encP_C (p : Int × Int) : encP p = encC [p.1, p.2] := rfl
/-- data of depth at most k -/
def Sh (k : Nat) (d : PyData) : Prop := d.canLay0 = true ∧ d.depth ≤ k
theorem Sh.shaped {k : Nat} {d : PyData} (h : Sh k d) (hk : k ≤ 64 := by decide) : SeqAt.shaped d = true := by
  simp only [SeqAt.shaped, h.1, Bool.true_and, decide_eq_true_eq]
  exact Nat.le_trans h.2 hk
theorem layAll {l : List PyData} (h : ∀ x ∈ l, x.canLay0 = true) : PyData.canLayAll0 l = true := by
  induction l with
  | nil => rfl
  | cons a r ih => rw [PyData.canLayAll0, h a List.mem_cons_self, ih fun x hx => h x (List.mem_cons_of_mem _ hx)]; rfl
theorem depthAll_le {l : List PyData} {k : Nat} (h : ∀ x ∈ l, x.depth ≤ k) : PyData.depthAll l ≤ k := by
  induction l with
  | nil => exact Nat.zero_le _
  | cons a r ih =>
    rw [PyData.depthAll]
    exact Nat.max_le.mpr ⟨h a List.mem_cons_self, ih fun x hx => h x (List.mem_cons_of_mem _ hx)⟩
theorem Sh.tuple {k : Nat} {l : List PyData} (h : ∀ x ∈ l, Sh k x) : Sh (k + 1) (.tuple l) := ⟨by rw [PyData.canLay0]; exact layAll fun x hx => (h x hx).1, by rw [PyData.depth]; exact Nat.succ_le_succ (depthAll_le fun x hx => (h x hx).2)⟩
theorem Sh.list {k : Nat} {l : List PyData} (h : ∀ x ∈ l, Sh k x) : Sh (k + 1) (.list l) := ⟨by rw [PyData.canLay0]; exact layAll fun x hx => (h x hx).1, by rw [PyData.depth]; exact Nat.succ_le_succ (depthAll_le fun x hx => (h x hx).2)⟩
theorem Sh.int (k : Nat) (i : Int) : Sh k (.int i) := ⟨rfl, Nat.zero_le _⟩
theorem Sh.bool (k : Nat) (i : Bool) : Sh k (.bool i) := ⟨rfl, Nat.zero_le _⟩
theorem Sh.none (k : Nat) : Sh k .none := ⟨rfl, Nat.zero_le _⟩
theorem Sh.mono {j k : Nat} {d : PyData} (h : Sh j d) (hk : j ≤ k) : Sh k d := ⟨h.1, Nat.le_trans h.2 hk⟩
theorem sh_C (c : List Int) : Sh 1 (encC c) := Sh.tuple fun x hx => by obtain ⟨i, _, rfl⟩ := List.mem_map.mp hx; exact Sh.int 0 i
theorem sh_P (p : Int × Int) : Sh 1 (encP p) := sh_C [p.1, p.2]
theorem sh_T (n : Int) (cs : List (List Int)) : Sh 3 (encT n cs) := Sh.tuple fun x hx => by
  rcases List.mem_cons.mp hx with rfl | hx
  · exact Sh.int 2 n
  · rcases List.mem_cons.mp hx with rfl | hx
    · exact Sh.tuple fun y hy => by obtain ⟨c, _, rfl⟩ := List.mem_map.mp hy; exact sh_C c
    · cases hx
theorem sh_Cs (cs : List (List Int)) : Sh 2 (.list (cs.map encC)) := Sh.list fun x hx => by obtain ⟨c, _, rfl⟩ := List.mem_map.mp hx; exact sh_C c
theorem sh_Ct (cs : List (List Int)) : Sh 2 (.tuple (cs.map encC)) := Sh.tuple fun x hx => by obtain ⟨c, _, rfl⟩ := List.mem_map.mp hx; exact sh_C c
theorem sh_Ps (ps : List (Int × Int)) : Sh 2 (.list (ps.map encP)) := Sh.list fun x hx => by obtain ⟨c, _, rfl⟩ := List.mem_map.mp hx; exact sh_P c
theorem sh_Pt (ps : List (Int × Int)) : Sh 2 (.tuple (ps.map encP)) := Sh.tuple fun x hx => by obtain ⟨c, _, rfl⟩ := List.mem_map.mp hx; exact sh_P c
theorem sh_Is (l : List Int) : Sh 1 (.list (l.map .int)) := Sh.list fun x hx => by obtain ⟨c, _, rfl⟩ := List.mem_map.mp hx; exact Sh.int 0 c
theorem atI_0 {α : Type} (a : α) (l : List α) : L2.atI (a :: l) 0 = some a := by
  simp [L2.atI, ixN]
theorem atI_1 {α : Type} (a b : α) (l : List α) : L2.atI (a :: b :: l) 1 = some b := by
  have h : (1 : Int) < ((a :: b :: l).length : Int) := by simp only [List.length_cons]; omega
  simp only [L2.atI, ixN, h, if_true]
  simp
theorem atI_2 {α : Type} (a b c : α) (l : List α) : L2.atI (a :: b :: c :: l) 2 = some c := by
  have h : (2 : Int) < ((a :: b :: c :: l).length : Int) := by simp only [List.length_cons]; omega
  simp only [L2.atI, ixN, h, if_true]
  simp
theorem atI_map {α β : Type} (f : α → β) (l : List α) (i : Int) : L2.atI (l.map f) i = (L2.atI l i).map f := by
  unfold L2.atI
  rw [List.length_map]
  cases ixN l.length i <;> simp
/-! ### equal, less -/
theorem eqvAll_ints : ∀ a b : List Int, PyData.eqvAll (a.map .int) (b.map .int) = decide (a = b)
  | [], [] => by simp [PyData.eqvAll]
  | [], _ :: _ => by simp [PyData.eqvAll]
  | _ :: _, [] => by simp [PyData.eqvAll]
  | x :: a, y :: b => by
    simp only [List.map_cons, PyData.eqvAll, PyData.eqv, eqvAll_ints a b, List.cons.injEq]
    by_cases h : x = y <;> simp [h]
theorem eqv_C (a b : List Int) : PyData.eqv (encC a) (encC b) = decide (a = b) := by
  rw [PyData.eqv, eqvAll_ints]
theorem eqv_P (a b : Int × Int) : PyData.eqv (encP a) (encP b) = decide (a = b) := by
  rw [encP_C, encP_C, eqv_C]
  simp [Prod.ext_iff]
theorem eqv_int (a b : Int) : PyData.eqv (.int a) (.int b) = decide (a = b) := by rw [PyData.eqv, Bool.eq_iff_iff]; simp
theorem eqvAll_map {α : Type} [DecidableEq α] (f : α → PyData) (h : ∀ a b, PyData.eqv (f a) (f b) = decide (a = b)) : ∀ a b : List α, PyData.eqvAll (a.map f) (b.map f) = decide (a = b)
  | [], [] => by simp [PyData.eqvAll]
  | [], _ :: _ => by simp [PyData.eqvAll]
  | _ :: _, [] => by simp [PyData.eqvAll]
  | x :: a, y :: b => by
    simp only [List.map_cons, PyData.eqvAll, h, eqvAll_map f h a b, List.cons.injEq]
    by_cases h : x = y <;> simp [h]
theorem any_eqv {α : Type} [DecidableEq α] (f : α → PyData) (h : ∀ a b, PyData.eqv (f a) (f b) = decide (a = b)) (x : α) (l : List α) : ((l.map f).any fun z => PyData.eqv z (f x)) = decide (x ∈ l) := by
  induction l with
  | nil => simp
  | cons y r ih =>
    simp only [List.map_cons, List.any_cons, ih, h, List.mem_cons]
    by_cases hx : y = x
    · simp [hx]
    · simp [hx, Ne.symm hx]
theorem alikeAll_ints : ∀ a b : List Int, PySem.W.alikeAll (a.map .int) (b.map .int) = true
  | [], _ => by simp [PySem.W.alikeAll]
  | _ :: _, [] => by simp [PySem.W.alikeAll]
  | x :: a, y :: b => by simp [PySem.W.alikeAll, PySem.W.alike, alikeAll_ints a b]
theorem alike_C (a b : List Int) : PySem.W.alike (encC a) (encC b) = true := by
  rw [PySem.W.alike]
  exact alikeAll_ints a b
theorem lt_C (a b : List Int) : PySem.W.dataLt (encC a) (encC b) = decide (a < b) := by
  rw [PySem.W.dataLt_tuple]
  exact PySem.W.dataLt_ints a b
theorem ordOk_C (a b : List Int) : ordOk (encC a) (encC b) = true := by
  simp only [ordOk, alike_C, (sh_C a).shaped, (sh_C b).shaped, Bool.and_true]
theorem fEq_i (a b : Int) : fEq (.int a) (.int b) = some (.bool (decide (a = b))) := by
  unfold fEq
  rw [(Sh.int 0 a).shaped, (Sh.int 0 b).shaped, eqv_int]
  rfl
theorem fNe_i (a b : Int) : fNe (.int a) (.int b) = some (.bool (!decide (a = b))) := by
  unfold fNe
  rw [(Sh.int 0 a).shaped, (Sh.int 0 b).shaped, eqv_int]
  rfl
theorem fLt_i (i j : Int) : fLt (.int i) (.int j) = some (.bool (decide (i < j))) := rfl
theorem fGt_i (i j : Int) : fGt (.int i) (.int j) = some (.bool (decide (j < i))) := rfl
theorem fLe_i (i j : Int) : fLe (.int i) (.int j) = some (.bool (decide (i ≤ j))) := rfl
theorem fGe_i (i j : Int) : fGe (.int i) (.int j) = some (.bool (decide (j ≤ i))) := rfl
theorem fLt_C (a b : List Int) : fLt (encC a) (encC b) = some (.bool (decide (a < b))) := by
  show (if ordOk (encC a) (encC b) then some (PyData.bool (PySem.W.dataLt (encC a) (encC b))) else none) = _
  rw [ordOk_C, lt_C]
  rfl
theorem fIn_map {α : Type} [DecidableEq α] (f : α → PyData) (h : ∀ a b, PyData.eqv (f a) (f b) = decide (a = b)) (hs : ∀ a, Sh 2 (f a)) (x : α) (l : List α) : fIn (f x) (.list (l.map f)) = some (.bool (decide (x ∈ l))) ∧ fIn (f x) (.tuple (l.map f)) = some (.bool (decide (x ∈ l))) ∧
    fNotIn (f x) (.list (l.map f)) = some (.bool (!decide (x ∈ l))) ∧ fNotIn (f x) (.tuple (l.map f)) = some (.bool (!decide (x ∈ l))) := by
  have h1 : SeqAt.shaped (f x) = true := (hs x).shaped
  have h2 : SeqAt.shaped (.list (l.map f)) = true := (Sh.list (k := 2) fun y hy => by obtain ⟨c, _, rfl⟩ := List.mem_map.mp hy; exact hs c).shaped
  have h3 : SeqAt.shaped (.tuple (l.map f)) = true := (Sh.tuple (k := 2) fun y hy => by obtain ⟨c, _, rfl⟩ := List.mem_map.mp hy; exact hs c).shaped
  unfold fIn fNotIn
  simp only [h1, h2, h3, any_eqv f h, Bool.and_self, if_true, and_self]
theorem fIn_i (x : Int) (l : List Int) : fIn (.int x) (.tuple (l.map .int)) = some (.bool (decide (x ∈ l))) := (fIn_map .int eqv_int (fun a => Sh.int 2 a) x l).2.1
theorem fIn_iC (x : Int) (l : List Int) : fIn (.int x) (encC l) = some (.bool (decide (x ∈ l))) := fIn_i x l
theorem fIn_iL (x : Int) (l : List Int) : fIn (.int x) (.list (l.map .int)) = some (.bool (decide (x ∈ l))) := (fIn_map .int eqv_int (fun a => Sh.int 2 a) x l).1
theorem fNotIn_iC (x : Int) (l : List Int) : fNotIn (.int x) (encC l) = some (.bool (!decide (x ∈ l))) := (fIn_map .int eqv_int (fun a => Sh.int 2 a) x l).2.2.2
theorem fIn_P (x : Int × Int) (l : List (Int × Int)) : fIn (encP x) (.list (l.map encP)) = some (.bool (decide (x ∈ l))) := (fIn_map encP eqv_P (fun a => (sh_P a).mono (by decide)) x l).1.trans (by congr)
theorem fNotIn_P (x : Int × Int) (l : List (Int × Int)) : fNotIn (encP x) (.list (l.map encP)) = some (.bool (!decide (x ∈ l))) := (fIn_map encP eqv_P (fun a => (sh_P a).mono (by decide)) x l).2.2.1.trans (by congr)
theorem fNotIn_C (x : List Int) (l : List (List Int)) : fNotIn (encC x) (.list (l.map encC)) = some (.bool (!decide (x ∈ l))) := (fIn_map encC eqv_C (fun a => (sh_C a).mono (by decide)) x l).2.2.1.trans (by congr)
/-! ### sorted -/
def srtC (cs : List (List Int)) : List (List Int) := cs.mergeSort fun a b => !decide (b < a)
def srtI (c : List Int) : List Int := c.mergeSort fun a b => decide (a ≤ b)
theorem sort_map {α : Type} (f : α → PyData) (le : α → α → Bool) (h : ∀ a b, PySem.W.dataLe false id (f a) (f b) = le a b) (l : List α) : sortD (l.map f) = (l.mergeSort le).map f := by
  unfold sortD
  rw [← List.map_mergeSort]
  intro a ha b hb
  exact (h a b).symm
theorem sortD_C (cs : List (List Int)) : sortD (cs.map encC) = (srtC cs).map encC := sort_map encC _ (fun a b => by rw [PySem.W.dataLe_eq]; simp only [id, cond_false, lt_C]) cs
theorem sortD_I (c : List Int) : sortD (c.map .int) = (srtI c).map .int := sort_map .int _ (fun a b => by
  rw [PySem.W.dataLe_eq]; simp only [id, cond_false, PySem.W.dataLt_int]; by_cases h : a ≤ b <;> simp [h] <;> omega) c
theorem sortOk_C (cs : List (List Int)) (h : ∀ c ∈ cs, c ≠ []) : sortOk (cs.map encC) = true := by
  simp only [sortOk, Bool.and_eq_true, Bool.or_eq_true, List.all_eq_true, (sh_Cs cs).shaped, and_true]
  refine ⟨fun x hx y hy => ?_, .inl fun x hx => ?_⟩
  · obtain ⟨a, _, rfl⟩ := List.mem_map.mp hx
    obtain ⟨b, _, rfl⟩ := List.mem_map.mp hy
    exact alike_C a b
  · obtain ⟨a, ha, rfl⟩ := List.mem_map.mp hx
    cases a with
    | nil => exact absurd rfl (h _ ha)
    | cons i r => rfl
theorem sortOk_I (c : List Int) : sortOk (c.map .int) = true := by
  simp only [sortOk, Bool.and_eq_true, Bool.or_eq_true, List.all_eq_true, (sh_Is c).shaped, and_true]
  refine ⟨fun x hx y hy => ?_, .inr fun x hx => ?_⟩
  · obtain ⟨a, _, rfl⟩ := List.mem_map.mp hx
    obtain ⟨b, _, rfl⟩ := List.mem_map.mp hy
    rfl
  · obtain ⟨a, _, rfl⟩ := List.mem_map.mp hx
    rfl
/-! ### towns -/
structure ClubV (n : Int) (c : List Int) : Prop where
  two : 2 ≤ c.length
  less : (c.length : Int) < n
  ran : ∀ x ∈ c, 0 ≤ x ∧ x < n
  asc : c.Pairwise (· < ·)
structure TownV (n : Int) (cs : List (List Int)) : Prop where
  lo : 3 ≤ n
  hi : n ≤ 31
  clubs : ∀ c ∈ cs, ClubV n c
  asc : cs.Pairwise (· < ·)
end Tw
/-! Towns, 2: ranges, pairs, counts. -/
namespace Tw
open PySem PySem.Spec L2 DL
theorem fm_congr {α β : Type} {f g : α → List β} : ∀ {l : List α}, (∀ x ∈ l, f x = g x) → l.flatMap f = l.flatMap g
  | [], _ => rfl
  | a :: r, h => by
    rw [List.flatMap_cons, List.flatMap_cons, h a List.mem_cons_self, fm_congr fun x hx => h x (List.mem_cons_of_mem _ hx)]
theorem nodup_map {α β : Type} {f : α → β} {l : List α} (hf : ∀ a b, f a = f b → a = b) (h : l.Nodup) : (l.map f).Nodup := by
  rw [List.Nodup, List.pairwise_map]
  exact List.Pairwise.imp (fun hab e => hab (hf _ _ e)) h
def ir (lo hi : Int) : List Int := (List.range (hi - lo).toNat).map fun (k : Nat) => lo + (k : Int)
theorem mem_ir {lo hi x : Int} : x ∈ ir lo hi ↔ lo ≤ x ∧ x < hi := by
  unfold ir
  simp only [List.mem_map, List.mem_range]
  constructor
  · rintro ⟨k, hk, rfl⟩; omega
  · rintro ⟨h1, h2⟩; exact ⟨(x - lo).toNat, by omega, by omega⟩
theorem ir_length (lo hi : Int) : (ir lo hi).length = (hi - lo).toNat := by simp [ir]
theorem rng_ir (lo hi : Int) : rng lo (hi - lo).toNat = (ir lo hi).map .int := by simp [rng, ir]
theorem rng0_ir (hi : Int) : rng 0 hi.toNat = (ir 0 hi).map .int := by
  have := rng_ir 0 hi
  simpa using this
theorem ir_nodup (lo hi : Int) : (ir lo hi).Nodup := by
  unfold ir
  exact nodup_map (fun a b h => by omega) List.nodup_range
theorem ir_asc (lo hi : Int) : (ir lo hi).Pairwise (· < ·) := by
  unfold ir
  rw [List.pairwise_map]
  exact List.pairwise_lt_range.imp fun h => by omega
/-- all pairs, ascending -/
def pairsN (n : Int) : List (Int × Int) := (ir 0 n).flatMap fun a => (ir (a + 1) n).map fun b => (a, b)
theorem mem_pairsN {n : Int} {p : Int × Int} : p ∈ pairsN n ↔ 0 ≤ p.1 ∧ p.1 < p.2 ∧ p.2 < n := by
  obtain ⟨a, b⟩ := p
  unfold pairsN
  simp only [List.mem_flatMap, List.mem_map, mem_ir, Prod.mk.injEq]
  constructor
  · rintro ⟨x, hx, y, hy, rfl, rfl⟩; omega
  · intro h; exact ⟨a, by omega, b, by omega, rfl, rfl⟩
theorem pairsN_nodup (n : Int) : (pairsN n).Nodup := by
  unfold pairsN
  rw [List.Nodup, List.pairwise_flatMap]
  refine ⟨fun a _ => nodup_map (fun x y h => (Prod.mk.inj h).2) (ir_nodup _ _), ?_⟩
  refine List.Pairwise.imp ?_ (ir_nodup 0 n)
  intro a b hab x hx y hy e
  subst e
  obtain ⟨_, _, rfl⟩ := List.mem_map.mp hx
  obtain ⟨_, _, h⟩ := List.mem_map.mp hy
  exact hab (Prod.mk.inj h).1.symm
/-- the pairs of a club -/
def pairsC : List Int → List (Int × Int)
  | [] => []
  | x :: r => r.map (fun y => (x, y)) ++ pairsC r
theorem mem_pairsC {c : List Int} (h : c.Pairwise (· < ·)) {p : Int × Int} : p ∈ pairsC c ↔ p.1 ∈ c ∧ p.2 ∈ c ∧ p.1 < p.2 := by
  induction c with
  | nil => simp [pairsC]
  | cons x r ih =>
    rw [List.pairwise_cons] at h
    obtain ⟨a, b⟩ := p
    simp only [pairsC, List.mem_append, List.mem_map, ih h.2, List.mem_cons, Prod.mk.injEq]
    constructor
    · rintro (⟨y, hy, rfl, rfl⟩ | ⟨h1, h2, h3⟩)
      · exact ⟨.inl rfl, .inr hy, h.1 _ hy⟩
      · exact ⟨.inr h1, .inr h2, h3⟩
    · rintro ⟨rfl | h1, rfl | h2, h3⟩
      · omega
      · exact .inl ⟨b, h2, rfl, rfl⟩
      · have := h.1 _ h1; omega
      · exact .inr ⟨h1, h2, h3⟩
theorem pairsC_nodup {c : List Int} (h : c.Pairwise (· < ·)) : (pairsC c).Nodup := by
  induction c with
  | nil => simp [pairsC]
  | cons x r ih =>
    rw [List.pairwise_cons] at h
    simp only [pairsC, List.nodup_append]
    refine ⟨nodup_map (fun a b e => (Prod.mk.inj e).2) (h.2.imp fun h => by omega), ih h.2, fun p hp q hq e => ?_⟩
    subst e
    obtain ⟨y, hy, rfl⟩ := List.mem_map.mp hp
    have := ((mem_pairsC h.2).mp hq).1
    have := h.1 _ this
    omega
theorem pairsC_idx (c : List Int) : ∀ k, (c.zipIdx k).flatMap (fun p => (c.drop (p.2 + 1 - k)).map fun y => (p.1, y)) = pairsC c := by
  induction c with
  | nil => intro k; rfl
  | cons x r ih =>
    intro k
    simp only [List.zipIdx_cons, List.flatMap_cons, pairsC]
    have e0 : k + 1 - k = 1 := by omega
    rw [e0, List.drop_succ_cons, List.drop_zero]
    congr 1
    rw [← ih (k + 1)]
    refine fm_congr fun p hp => ?_
    have hk := (List.mem_zipIdx hp).1
    have e1 : p.2 + 1 - k = (p.2 + 1 - (k + 1)) + 1 := by omega
    rw [e1, List.drop_succ_cons]
theorem enum_map {α : Type} (enc : α → PyData) (l : List α) : enumD (l.map enc) = (l.zipIdx 0).map fun p => pairD (.int (p.2 : Nat)) (enc p.1) := by
  apply List.ext_getElem?
  intro i
  rw [List.getElem?_map]
  by_cases h : i < l.length
  · have hx : (l.map enc)[i]? = some (enc l[i]) := by simp [h]
    rw [enumD_get hx]
    simp [h]
  · rw [List.getElem?_eq_none (by rw [enumD_length, List.length_map]; omega), List.getElem?_eq_none (by simp; omega)]
    rfl
theorem cut_from {α : Type} (l : List α) (k : Nat) : cutL l (some (k : Int)) none = l.drop k := by
  unfold cutL
  rw [HT.sIx_nat, HT.sIx_none]
  rcases Nat.le_total k l.length with h | h
  · rw [Nat.min_eq_left h, List.take_of_length_le (by rw [List.length_drop]; exact Nat.le_refl _)]
  · rw [Nat.min_eq_right h, List.drop_length, List.drop_of_length_le h]; simp
theorem cut_from1 {α : Type} (l : List α) : cutL l (some 1) none = l.drop 1 := cut_from l 1
theorem cut_fromI {α : Type} (l : List α) (i : Int) (h : 0 ≤ i) : cutL l (some i) none = l.drop i.toNat := by
  have := cut_from l i.toNat
  rwa [Int.toNat_of_nonneg h] at this
theorem len_flatMap_le {α β : Type} (f : α → List β) (m : Nat) : ∀ l : List α, (∀ x ∈ l, (f x).length ≤ m) → (l.flatMap f).length ≤ l.length * m
  | [], _ => by simp
  | a :: r, h => by
    have h1 := h a List.mem_cons_self
    have h2 := len_flatMap_le f m r fun x hx => h x (List.mem_cons_of_mem _ hx)
    rw [List.flatMap_cons, List.length_append, List.length_cons, Nat.succ_mul]
    omega
theorem pairsN_len (n : Int) (h : n ≤ 31) : (pairsN n).length ≤ 961 := by
  have h1 := len_flatMap_le (fun a => (ir (a + 1) n).map fun b => (a, b)) 31 (ir 0 n) (fun x hx => by
    rw [List.length_map, ir_length]
    have := (mem_ir.mp hx).1
    omega)
  have h2 : (ir 0 n).length ≤ 31 := by rw [ir_length]; omega
  have h3 := Nat.mul_le_mul_right 31 h2
  exact Nat.le_trans h1 h3
theorem pairsC_len : ∀ c : List Int, (pairsC c).length ≤ c.length * c.length
  | [] => by simp [pairsC]
  | x :: r => by
    have := pairsC_len r
    simp only [pairsC, List.length_append, List.length_map, List.length_cons, Nat.succ_mul, Nat.mul_succ]
    omega
theorem foldl_snoc {α : Type} : ∀ (c L : List α), c.foldl (fun L x => L ++ [x]) L = L ++ c
  | [], L => by simp
  | x :: c, L => by rw [List.foldl_cons, foldl_snoc c]; simp
theorem foldl_app {α β : Type} (f : β → List α) : ∀ (c : List β) (L : List α), c.foldl (fun L x => L ++ f x) L = L ++ c.flatMap f
  | [], L => by simp
  | x :: c, L => by rw [List.foldl_cons, foldl_app f c]; simp
theorem foldl_step {α γ : Type} {step : γ → α → γ} {c0 : γ} {l : List α} {k : Nat} {a : α} (h : l[k]? = some a) : (l.take (k + 1)).foldl step c0 = step ((l.take k).foldl step c0) a := by
  rw [List.take_add_one, h, List.foldl_append]
  rfl
/-! ### counts of members -/
def cnt (n : Int) (L : List Int) : List Int := (ir 0 n).map fun p => (L.count p : Int)
theorem cnt_nil (n : Int) (h : 0 ≤ n) : cnt n [] = List.replicate n.toNat 0 := by
  unfold cnt
  simp only [List.count_nil]
  rw [List.map_const']
  rw [ir_length]
  simp
theorem cnt_length (n : Int) (L : List Int) : (cnt n L).length = n.toNat := by simp [cnt, ir_length]
theorem cnt_get {n : Int} {L : List Int} {x : Int} (h0 : 0 ≤ x) (h1 : x < n) : (cnt n L)[x.toNat]? = some (L.count x : Int) := by
  unfold cnt ir
  have : x.toNat < (n - 0).toNat := by omega
  simp only [List.map_map, List.getElem?_map, List.getElem?_range this, Option.map_some, Function.comp]
  congr 3
  omega
theorem cnt_set {n : Int} {L : List Int} {x : Int} (h0 : 0 ≤ x) (h1 : x < n) : (cnt n L).set x.toNat ((L.count x : Int) + 1) = cnt n (L ++ [x]) := by
  apply List.ext_getElem?
  intro i
  by_cases hi : i < n.toNat
  · have e1 : (cnt n (L ++ [x]))[i]? = some ((L ++ [x]).count (i : Int) : Int) := by
      have := cnt_get (n := n) (L := L ++ [x]) (x := (i : Int)) (by omega) (by omega)
      simpa using this
    have e2 : (cnt n L)[i]? = some (L.count (i : Int) : Int) := by
      have := cnt_get (n := n) (L := L) (x := (i : Int)) (by omega) (by omega)
      simpa using this
    rw [e1]
    by_cases hx : x.toNat = i
    · subst hx
      rw [List.getElem?_set_self (by rw [cnt_length]; exact hi)]
      have : ((x.toNat : Nat) : Int) = x := by omega
      rw [this, List.count_append]
      simp
    · rw [List.getElem?_set_ne hx, e2, List.count_append]
      have : ¬ x = (i : Int) := by omega
      simp [this]
  · rw [List.getElem?_eq_none (by rw [List.length_set, cnt_length]; omega), List.getElem?_eq_none (by rw [cnt_length]; omega)]
theorem ixN_get {n : Nat} {x : Int} (h0 : 0 ≤ x) (h1 : x < n) : ixN n x = some x.toNat := by
  unfold ixN
  rw [if_pos h0, if_pos h1]
/-! ### counts of pairs, as a dict -/
def nkP (p : Int × Int) : NK := .tup [.num p.1, .num p.2]
theorem nkOf_P (p : Int × Int) : nkOf (encP p) = some (nkP p) := by simp [nkOf, nksOf, nkP, encP]
theorem tkOf_P (p : Int × Int) : tkOf (encP p) = some (nkP p) := by
  show (match nkOf (encP p) with
    | some k => if k.depth ≤ 8 then some k else none
    | none => none) = _
  rw [nkOf_P]
  simp [nkP, NestedKey.depth, NestedKey.depthAll]
theorem nkP_inj {p q : Int × Int} (h : nkP p = nkP q) : p = q := by
  simp only [nkP, NestedKey.tup.injEq, List.cons.injEq, NestedKey.num.injEq, and_true] at h
  exact Prod.ext h.1 h.2
theorem nkP_data (p : Int × Int) : (nkP p).data = encP p := by simp [nkP, NestedKey.data, NestedKey.datas, encP]
def dP (l : List (Int × Int)) (f : Int × Int → PyData) : DD := l.map fun p => (encP p, f p)
theorem dget_P {l : List (Int × Int)} {f : Int × Int → PyData} {p : Int × Int} (h : p ∈ l) : dget (dP l f) (nkP p) = some (f p) := by
  unfold dget dP
  induction l with
  | nil => cases h
  | cons q r ih =>
    rw [List.map_cons, List.find?_cons]
    by_cases hq : q = p
    · subst hq
      simp [nkOf_P]
    · have : ¬ nkP q = nkP p := fun e => hq (nkP_inj e)
      simp only [nkOf_P, Option.some.injEq, this, decide_false]
      exact ih (by rcases List.mem_cons.mp h with e | e; exact absurd e.symm hq; exact e)
theorem dget_P_none {l : List (Int × Int)} {f : Int × Int → PyData} {p : Int × Int} (h : p ∉ l) : dget (dP l f) (nkP p) = none := by
  unfold dget dP
  rw [List.find?_eq_none.mpr]
  · rfl
  · intro x hx
    obtain ⟨q, hq, rfl⟩ := List.mem_map.mp hx
    have : ¬ nkP q = nkP p := fun e => h (nkP_inj e ▸ hq)
    simp [nkOf_P, this]
theorem any_P (l : List (Int × Int)) (f : Int × Int → PyData) (p : Int × Int) : ((dP l f).any fun q => decide (nkOf q.1 = some (nkP p))) = decide (p ∈ l) := by
  unfold dP
  induction l with
  | nil => rfl
  | cons q r ih =>
    simp only [List.map_cons, List.any_cons, ih, nkOf_P, Option.some.injEq, List.mem_cons]
    by_cases hq : q = p
    · subst hq; simp
    · have h1 : ¬ nkP q = nkP p := fun e => hq (nkP_inj e)
      have h2 : ¬ p = q := fun e => hq e.symm
      simp [h1, h2]
theorem dput_P {l : List (Int × Int)} {f : Int × Int → PyData} {p : Int × Int} {v : PyData} (h : p ∈ l) : dput (dP l f) (nkP p) v = dP l fun q => if q = p then v else f q := by
  unfold dput
  rw [any_P, if_pos (decide_eq_true h)]
  unfold dP
  rw [List.map_map]
  refine List.map_congr_left fun q _ => ?_
  simp only [Function.comp, nkOf_P, Option.some.injEq]
  by_cases hq : q = p
  · subst hq; simp
  · have : ¬ nkP q = nkP p := fun e => hq (nkP_inj e)
    simp [this, hq]
theorem dput_P_new {l : List (Int × Int)} {f : Int × Int → PyData} {p : Int × Int} {v : PyData} (h : p ∉ l) (hf : f p = v) : dput (dP l f) (nkP p) v = dP (l ++ [p]) f := by
  unfold dput
  rw [any_P, if_neg (by simp [h])]
  unfold dP
  rw [List.map_append, nkP_data, ← hf]
  rfl
/-- counts of pairs in L, for all pairs -/
def cntP (n : Int) (L : List (Int × Int)) : DD := dP (pairsN n) fun p => .int (L.count p : Int)
theorem cntP_put {n : Int} {L : List (Int × Int)} {p : Int × Int} (h : p ∈ pairsN n) : dput (cntP n L) (nkP p) (.int ((L.count p : Int) + 1)) = cntP n (L ++ [p]) := by
  unfold cntP
  rw [dput_P h]
  unfold dP
  refine List.map_congr_left fun q _ => ?_
  simp only [List.count_append]
  by_cases hq : q = p
  · subst hq; simp
  · have : ¬ p = q := fun e => hq e.symm
    simp [hq, this]
theorem cntP_get {n : Int} {L : List (Int × Int)} {p : Int × Int} (h : p ∈ pairsN n) : dget (cntP n L) (nkP p) = some (.int (L.count p : Int)) := dget_P h
theorem cntP_length (n : Int) (L : List (Int × Int)) : (cntP n L).length = (pairsN n).length := by simp [cntP, dP]
end Tw
/-! Towns: sorting, calling otherwise, pairs. -/
namespace Tw
open PySem PySem.Spec L2 DL List
/-- a town of a size that counts -/
structure TownS (n : Int) (cs : List (List Int)) : Prop extends TownV n cs where
  few : cs.length ≤ 1000
theorem lc_le_trans {a b c : List Int} (h1 : ¬ b < a) (h2 : ¬ c < b) : ¬ c < a := by
  have h1' : a ≤ b := List.not_lt.mp h1
  have h2' : b ≤ c := List.not_lt.mp h2
  exact List.not_lt.mpr (List.le_trans h1' h2')
theorem lc_anti {a b : List Int} (h1 : ¬ b < a) (h2 : ¬ a < b) : a = b := List.le_antisymm (List.not_lt.mp h1) (List.not_lt.mp h2)
theorem lc_lt_of {a b : List Int} (h1 : ¬ b < a) (h2 : a ≠ b) : a < b := Classical.byContradiction fun h => h2 (lc_anti h1 h)
theorem lc_irrefl (a : List Int) : ¬ a < a := List.lt_irrefl a
theorem srtC_perm (cs : List (List Int)) : (srtC cs).Perm cs := List.mergeSort_perm _ _
theorem srtI_perm (c : List Int) : (srtI c).Perm c := List.mergeSort_perm _ _
theorem mem_srtC {cs : List (List Int)} {c : List Int} : c ∈ srtC cs ↔ c ∈ cs := (srtC_perm cs).mem_iff
theorem mem_srtI {c : List Int} {x : Int} : x ∈ srtI c ↔ x ∈ c := (srtI_perm c).mem_iff
theorem srtC_len (cs : List (List Int)) : (srtC cs).length = cs.length := (srtC_perm cs).length_eq
theorem srtI_len (c : List Int) : (srtI c).length = c.length := (srtI_perm c).length_eq
theorem asc_of {α : Type} {lt : α → α → Prop} {le : α → α → Prop} (h : ∀ a b, le a b → a ≠ b → lt a b) {l : List α} (h1 : l.Pairwise le) (h2 : l.Nodup) : l.Pairwise lt :=
  (h1.and h2).imp fun ⟨p, q⟩ => h _ _ p q
theorem srtC_asc {cs : List (List Int)} (h : cs.Nodup) : (srtC cs).Pairwise (· < ·) := by
  have h1 : (srtC cs).Pairwise (fun a b => (!decide (b < a)) = true) := List.pairwise_mergeSort (fun a b c h1 h2 => by
    simp only [Bool.not_eq_true', decide_eq_false_iff_not] at *
    exact lc_le_trans h1 h2) (fun a b => by
    rw [Bool.or_eq_true]
    simp only [Bool.not_eq_true', decide_eq_false_iff_not]
    rcases List.le_total a b with h | h
    · exact .inl (List.not_lt.mpr h)
    · exact .inr (List.not_lt.mpr h)) cs
  refine asc_of (fun a b h1 h2 => ?_) h1 ((srtC_perm cs).nodup_iff.mpr h)
  simp only [Bool.not_eq_true', decide_eq_false_iff_not] at h1
  exact lc_lt_of h1 h2
theorem srtI_asc {c : List Int} (h : c.Nodup) : (srtI c).Pairwise (· < ·) := by
  have h1 : (srtI c).Pairwise (fun a b => decide (a ≤ b) = true) := List.pairwise_mergeSort (fun a b c h1 h2 => by
    simp only [decide_eq_true_eq] at *; omega) (fun a b => by
    rw [Bool.or_eq_true]; simp only [decide_eq_true_eq]; omega) c
  refine asc_of (fun a b h1 h2 => ?_) h1 ((srtI_perm c).nodup_iff.mpr h)
  simp only [decide_eq_true_eq] at h1
  omega
theorem asc_nodup {c : List Int} (h : c.Pairwise (· < ·)) : c.Nodup := h.imp fun h => by omega
theorem ascC_nodup {cs : List (List Int)} (h : cs.Pairwise (· < ·)) : cs.Nodup := List.Pairwise.imp (fun {a b} (h : a < b) => show a ≠ b from fun e => lc_irrefl b (e ▸ h)) h
/-- two ascending lists of the same numbers -/
theorem asc_ext {c d : List Int} (hc : c.Pairwise (· < ·)) (hd : d.Pairwise (· < ·)) (h : ∀ x, x ∈ c ↔ x ∈ d) : c = d := by
  have hp : c.Perm d := (List.perm_ext_iff_of_nodup (asc_nodup hc) (asc_nodup hd)).mpr h
  exact hp.eq_of_pairwise (le := (· < ·)) (fun a b _ _ h1 h2 => by omega) hc hd
theorem srtI_id {c : List Int} (h : c.Pairwise (· < ·)) : srtI c = c := asc_ext (srtI_asc (asc_nodup h)) h fun _ => mem_srtI
theorem town_srt {n : Int} {cs : List (List Int)} (h3 : 3 ≤ n) (h31 : n ≤ 31) (h : ∀ c ∈ cs, ClubV n c) (hn : cs.Nodup) (hz : cs.length ≤ 1000) : TownS n (srtC cs) where
  lo := h3
  hi := h31
  clubs := fun c hc => h c (mem_srtC.mp hc)
  asc := srtC_asc hn
  few := by rw [srtC_len]; exact hz
/-! ### how many clubs hold both -/
def both (cs : List (List Int)) (a b : Int) : Nat := cs.countP fun c => decide (a ∈ c) && decide (b ∈ c)
theorem both_comm (cs : List (List Int)) (a b : Int) : both cs a b = both cs b a := by
  unfold both; congr 1; funext c; exact Bool.and_comm _ _
theorem both_perm {cs ds : List (List Int)} (h : cs.Perm ds) (a b : Int) : both cs a b = both ds a b := h.countP_eq _
theorem both_srt (cs : List (List Int)) (a b : Int) : both (srtC cs) a b = both cs a b := both_perm (srtC_perm cs) a b
theorem both_app (cs ds : List (List Int)) (a b : Int) : both (cs ++ ds) a b = both cs a b + both ds a b := List.countP_append
theorem both_pos {cs : List (List Int)} {a b : Int} : 0 < both cs a b ↔ ∃ c ∈ cs, a ∈ c ∧ b ∈ c := by
  unfold both
  rw [List.countP_pos_iff]
  simp
theorem count_both {cs : List (List Int)} (h : ∀ c ∈ cs, c.Pairwise (· < ·)) {p : Int × Int} (hp : p.1 < p.2) : (cs.flatMap pairsC).count p = both cs p.1 p.2 := by
  induction cs with
  | nil => rfl
  | cons c cs ih =>
    have hc := h c List.mem_cons_self
    rw [List.flatMap_cons, List.count_append, ih fun d hd => h d (List.mem_cons_of_mem _ hd), (pairsC_nodup hc).count]
    unfold both
    rw [List.countP_cons]
    by_cases hm : p ∈ pairsC c
    · have := (mem_pairsC hc).mp hm
      rw [if_pos hm]; simp [this.1, this.2.1]; omega
    · have : ¬ (p.1 ∈ c ∧ p.2 ∈ c) := fun q => hm ((mem_pairsC hc).mpr ⟨q.1, q.2, hp⟩)
      rw [if_neg hm]
      have e : (decide (p.1 ∈ c) && decide (p.2 ∈ c)) = false := by
        rw [← Bool.decide_and]; exact decide_eq_false this
      simp [e]
/-- each two in one club at most -/
def Single (cs : List (List Int)) : Prop := ∀ a b, a < b → both cs a b ≤ 1
/-- each two in just one club -/
def PairT (n : Int) (cs : List (List Int)) : Prop := ∀ a b, 0 ≤ a → a < b → b < n → both cs a b = 1
theorem PairT.single {n : Int} {cs : List (List Int)} (h : PairT n cs) (hv : ∀ c ∈ cs, ClubV n c) : Single cs := fun a b hab => by
  by_cases hp : 0 < both cs a b
  · obtain ⟨c, hc, h1, h2⟩ := both_pos.mp hp
    have r1 := (hv c hc).ran a h1
    have r2 := (hv c hc).ran b h2
    exact Nat.le_of_eq (h a b r1.1 hab r2.2)
  · omega
theorem Single.srt {cs : List (List Int)} (h : Single cs) : Single (srtC cs) := fun a b hab => by rw [both_srt]; exact h a b hab
theorem PairT.srt {n : Int} {cs : List (List Int)} (h : PairT n cs) : PairT n (srtC cs) := fun a b h0 hab hb => by rw [both_srt]; exact h a b h0 hab hb
/-! ### called otherwise -/
/-- the name of each -/
structure Names (n : Int) (f : Int → Int) : Prop where
  ran : ∀ x, 0 ≤ x → x < n → 0 ≤ f x ∧ f x < n
  inj : ∀ x y, 0 ≤ x → x < n → 0 ≤ y → y < n → f x = f y → x = y
  sur : ∀ y, 0 ≤ y → y < n → ∃ x, 0 ≤ x ∧ x < n ∧ f x = y
def nameF (l : List Int) (x : Int) : Int := l.getD x.toNat 0
theorem names_of {n : Int} {l : List Int} (h : l.Perm (ir 0 n)) : Names n (nameF l) := by
  have hl : l.length = n.toNat := by rw [h.length_eq, ir_length]; omega
  have hnd : l.Nodup := h.nodup_iff.mpr (ir_nodup 0 n)
  have hget : ∀ x, 0 ≤ x → x < n → ∃ hx : x.toNat < l.length, nameF l x = l[x.toNat] := fun x h0 h1 => by
    have hx : x.toNat < l.length := by omega
    exact ⟨hx, by unfold nameF; rw [List.getD_eq_getElem?_getD, List.getElem?_eq_getElem hx]; rfl⟩
  refine ⟨fun x h0 h1 => ?_, fun x y h0 h1 h2 h3 e => ?_, fun y h0 h1 => ?_⟩
  · obtain ⟨hx, e⟩ := hget x h0 h1
    have hm : l[x.toNat] ∈ ir 0 n := h.mem_iff.mp (List.getElem_mem hx)
    have := mem_ir.mp hm
    rw [e]; exact this
  · obtain ⟨hx, e1⟩ := hget x h0 h1
    obtain ⟨hy, e2⟩ := hget y h2 h3
    rw [e1, e2] at e
    have := (List.getElem_inj hnd).mp e
    omega
  · have hm : y ∈ l := h.mem_iff.mpr (mem_ir.mpr ⟨h0, h1⟩)
    obtain ⟨i, hi, e⟩ := List.getElem_of_mem hm
    refine ⟨i, by omega, by omega, ?_⟩
    unfold nameF
    rw [show ((i : Int)).toNat = i by omega, List.getD_eq_getElem?_getD, List.getElem?_eq_getElem hi]
    simpa using e
def callC (f : Int → Int) (c : List Int) : List Int := srtI (c.map f)
def callT (f : Int → Int) (cs : List (List Int)) : List (List Int) := srtC (cs.map (callC f))
section
variable {n : Int} {f : Int → Int}
theorem mem_callC {c : List Int} {y : Int} : y ∈ callC f c ↔ ∃ x ∈ c, f x = y := by
  unfold callC; rw [mem_srtI, List.mem_map]
theorem Names.nodup (F : Names n f) {c : List Int} (h : ClubV n c) : (c.map f).Nodup := by
  rw [List.Nodup, List.pairwise_map]
  exact h.asc.imp_of_mem fun {a b} ha hb hab e => by
    have h1 := h.ran a ha
    have h2 := h.ran b hb
    have := F.inj a b h1.1 h1.2 h2.1 h2.2 e
    omega
theorem Names.club (F : Names n f) {c : List Int} (h : ClubV n c) : ClubV n (callC f c) where
  two := by rw [callC, srtI_len, List.length_map]; exact h.two
  less := by rw [callC, srtI_len, List.length_map]; exact h.less
  ran := fun y hy => by
    obtain ⟨x, hx, rfl⟩ := mem_callC.mp hy
    have := h.ran x hx
    exact F.ran x this.1 this.2
  asc := srtI_asc (F.nodup h)
theorem Names.mem (F : Names n f) {c : List Int} (h : ClubV n c) {x : Int} (h0 : 0 ≤ x) (h1 : x < n) : f x ∈ callC f c ↔ x ∈ c := by
  rw [mem_callC]
  constructor
  · rintro ⟨y, hy, e⟩
    have := h.ran y hy
    rw [← F.inj y x this.1 this.2 h0 h1 e]; exact hy
  · intro h; exact ⟨x, h, rfl⟩
theorem Names.club_inj (F : Names n f) {c d : List Int} (hc : ClubV n c) (hd : ClubV n d) (e : callC f c = callC f d) : c = d := by
  refine asc_ext hc.asc hd.asc fun x => ?_
  constructor
  · intro h
    have r := hc.ran x h
    rw [← F.mem hd r.1 r.2, ← e, F.mem hc r.1 r.2]; exact h
  · intro h
    have r := hd.ran x h
    rw [← F.mem hc r.1 r.2, e, F.mem hd r.1 r.2]; exact h
theorem Names.nodupT (F : Names n f) {cs : List (List Int)} (h : TownV n cs) : (cs.map (callC f)).Nodup := by
  rw [List.Nodup, List.pairwise_map]
  exact h.asc.imp_of_mem fun {a b} ha hb hab e => by
    rw [F.club_inj (h.clubs a ha) (h.clubs b hb) e] at hab
    exact lc_irrefl _ hab
theorem Names.town (F : Names n f) {cs : List (List Int)} (h : TownS n cs) : TownS n (callT f cs) := by
  refine town_srt h.lo h.hi (fun c hc => ?_) (F.nodupT h.toTownV) (by rw [List.length_map]; exact h.few)
  obtain ⟨d, hd, rfl⟩ := List.mem_map.mp hc
  exact F.club (h.clubs d hd)
theorem Names.both (F : Names n f) {cs : List (List Int)} (h : TownV n cs) {a b : Int} (a0 : 0 ≤ a) (a1 : a < n) (b0 : 0 ≤ b) (b1 : b < n) : both (callT f cs) (f a) (f b) = both cs a b := by
  unfold callT
  rw [both_srt]
  unfold Tw.both
  rw [List.countP_map]
  refine List.countP_congr fun c hc => ?_
  have := h.clubs c hc
  simp only [Function.comp, Bool.and_eq_true, decide_eq_true_eq, F.mem this a0 a1, F.mem this b0 b1]
theorem Names.pairT (F : Names n f) {cs : List (List Int)} (h : TownV n cs) (hp : PairT n cs) : PairT n (callT f cs) := fun a b h0 hab hb => by
  obtain ⟨x, x0, x1, rfl⟩ := F.sur a h0 (by omega)
  obtain ⟨y, y0, y1, rfl⟩ := F.sur b (by omega) hb
  rw [F.both h x0 x1 y0 y1]
  by_cases hxy : x < y
  · exact hp x y x0 hxy y1
  · have : y < x := by
      by_cases e : x = y
      · rw [e] at hab; omega
      · omega
    rw [both_comm]; exact hp y x y0 this x1
end
/-! ### one club more -/
theorem both_one (c : List Int) (a b : Int) : both [c] a b = if a ∈ c ∧ b ∈ c then 1 else 0 := by
  unfold both
  rw [List.countP_cons, List.countP_nil]
  by_cases h : a ∈ c ∧ b ∈ c
  · simp [h.1, h.2]
  · rw [if_neg h]
    have e : (decide (a ∈ c) && decide (b ∈ c)) = false := by
      rw [← Bool.decide_and]; exact decide_eq_false h
    simp [e]
theorem nodup_app {α : Type} {l m : List α} (h1 : l.Nodup) (h2 : m.Nodup) (h : ∀ x ∈ l, x ∉ m) : (l ++ m).Nodup := by
  rw [List.nodup_append]
  exact ⟨h1, h2, fun x hx y hy e => h x hx (e ▸ hy)⟩
/-- the pairs that are in no club, as clubs -/
def missN (n : Int) (cs : List (List Int)) : List (Int × Int) := (pairsN n).filter fun p => decide ((cs.flatMap pairsC).count p = 0)
def asClub (p : Int × Int) : List Int := [p.1, p.2]
theorem asClub_inj {p q : Int × Int} (h : asClub p = asClub q) : p = q := by
  simp only [asClub, List.cons.injEq, and_true] at h
  exact Prod.ext h.1 h.2
theorem mem_missN {n : Int} {cs : List (List Int)} (h : ∀ c ∈ cs, c.Pairwise (· < ·)) {p : Int × Int} : p ∈ missN n cs ↔ (0 ≤ p.1 ∧ p.1 < p.2 ∧ p.2 < n) ∧ both cs p.1 p.2 = 0 := by
  unfold missN
  rw [List.mem_filter, mem_pairsN]
  constructor
  · rintro ⟨h1, h2⟩
    exact ⟨h1, by rw [← count_both h h1.2.1]; exact of_decide_eq_true h2⟩
  · rintro ⟨h1, h2⟩
    exact ⟨h1, by rw [count_both h h1.2.1]; exact decide_eq_true h2⟩
theorem missN_nodup (n : Int) (cs : List (List Int)) : (missN n cs).Nodup := List.Nodup.sublist List.filter_sublist (pairsN_nodup n)
def filled (n : Int) (cs : List (List Int)) : List (List Int) := cs ++ (missN n cs).map asClub
theorem filled_club {n : Int} {cs : List (List Int)} (h3 : 3 ≤ n) (h : ∀ c ∈ cs, ClubV n c) : ∀ c ∈ filled n cs, ClubV n c := fun c hc => by
  unfold filled at hc
  rw [List.mem_append] at hc
  rcases hc with hc | hc
  · exact h c hc
  · obtain ⟨p, hp, rfl⟩ := List.mem_map.mp hc
    have := ((mem_missN fun c hc => (h c hc).asc).mp hp).1
    refine ⟨by simp [asClub], by simp [asClub]; omega, fun x hx => ?_, by simp [asClub]; omega⟩
    simp [asClub] at hx
    omega
theorem both_asClubs {l : List (Int × Int)} (hl : l.Nodup) (hlt : ∀ p ∈ l, p.1 < p.2) {a b : Int} (hab : a < b) : both (l.map asClub) a b = if (a, b) ∈ l then 1 else 0 := by
  unfold both
  rw [List.countP_map, ← hl.count, List.count_eq_countP]
  refine List.countP_congr fun p hp => ?_
  have := hlt p hp
  simp only [Function.comp, asClub, Bool.and_eq_true, decide_eq_true_eq, List.mem_cons, List.not_mem_nil, or_false, beq_iff_eq]
  constructor
  · rintro ⟨h1, h2⟩
    have h3 : p.1 = a := by omega
    have h4 : p.2 = b := by omega
    exact Prod.ext h3 h4
  · rintro rfl
    exact ⟨.inl rfl, .inr rfl⟩
theorem filled_pairs {n : Int} {cs : List (List Int)} (h : ∀ c ∈ cs, ClubV n c) (hs : Single cs) : PairT n (filled n cs) := fun a b h0 hab hb => by
  have ha : ∀ c ∈ cs, c.Pairwise (· < ·) := fun c hc => (h c hc).asc
  unfold filled
  rw [both_app, both_asClubs (missN_nodup n cs) (fun p hp => ((mem_missN ha).mp hp).1.2.1) hab]
  have h1 := hs a b hab
  by_cases hm : (a, b) ∈ missN n cs
  · rw [if_pos hm, ((mem_missN ha).mp hm).2]
  · rw [if_neg hm]
    have : both cs a b ≠ 0 := fun e => hm ((mem_missN ha).mpr ⟨⟨h0, hab, hb⟩, e⟩)
    omega
theorem filled_nodup {n : Int} {cs : List (List Int)} (h : ∀ c ∈ cs, ClubV n c) (hn : cs.Nodup) : (filled n cs).Nodup := by
  refine nodup_app hn (nodup_map (fun a b => asClub_inj) (missN_nodup n cs)) fun c hc hm => ?_
  obtain ⟨p, hp, rfl⟩ := List.mem_map.mp hm
  have := ((mem_missN fun c hc => (h c hc).asc).mp hp).2
  have : 0 < both cs p.1 p.2 := both_pos.mpr ⟨_, hc, by simp [asClub], by simp [asClub]⟩
  omega
theorem missN_len {n : Int} (h : n ≤ 31) (cs : List (List Int)) : (missN n cs).length ≤ 961 := Nat.le_trans (List.length_filter_le _ _) (pairsN_len n h)
theorem filled_town {n : Int} {cs : List (List Int)} (h : TownS n cs) (hz : cs.length ≤ 39) : TownS n (srtC (filled n cs)) :=
  town_srt h.lo h.hi (filled_club h.lo h.clubs) (filled_nodup h.clubs (ascC_nodup h.asc)) (by
    unfold filled
    have := missN_len h.hi cs
    rw [List.length_append, List.length_map]; omega)
end Tw
/-! Fisher's inequality, by a dependence of more vectors than coordinates. -/
namespace Fish
section
variable {α β : Type}
theorem sum_app (f : α → Int) (l m : List α) : ((l ++ m).map f).sum = (l.map f).sum + (m.map f).sum := by
  rw [List.map_append, List.sum_append_int]
theorem sum_add (f g : α → Int) : ∀ l : List α, (l.map fun x => f x + g x).sum = (l.map f).sum + (l.map g).sum
  | [] => rfl
  | x :: l => by
    simp only [List.map_cons, List.sum_cons, sum_add f g l]
    omega
theorem sum_mul (k : Int) (f : α → Int) : ∀ l : List α, (l.map fun x => k * f x).sum = k * (l.map f).sum
  | [] => by simp
  | x :: l => by
    simp only [List.map_cons, List.sum_cons, sum_mul k f l, Int.mul_add]
theorem sum_congr {f g : α → Int} {l : List α} (h : ∀ x ∈ l, f x = g x) : (l.map f).sum = (l.map g).sum := by
  rw [List.map_congr_left h]
theorem sum_zero : ∀ l : List α, (l.map fun _ => (0 : Int)).sum = 0
  | [] => rfl
  | _ :: l => by simp only [List.map_cons, List.sum_cons, sum_zero l]; rfl
theorem sum_swap (f : α → β → Int) (m : List β) : ∀ l : List α, (l.map fun x => (m.map fun y => f x y).sum).sum = (m.map fun y => (l.map fun x => f x y).sum).sum
  | [] => by simp only [List.map_nil, List.sum_nil, sum_zero]
  | x :: l => by
    simp only [List.map_cons, List.sum_cons, sum_swap f m l, sum_add]
/-- more vectors than coordinates are dependent -/
theorem dep : ∀ (P : List β) (L : List α) (f : α → β → Int), P.length < L.length → ∃ c : List (Int × α), c.map (·.2) = L ∧ (∃ x ∈ c, x.1 ≠ 0) ∧ ∀ p ∈ P, (c.map fun x => x.1 * f x.2 p).sum = 0
  | [], L, f, h => by
    refine ⟨L.map fun u => (1, u), by rw [List.map_map]; exact List.map_id _, ?_, fun p hp => by cases hp⟩
    cases L with
    | nil => cases h
    | cons u L => exact ⟨(1, u), List.mem_cons_self, Int.one_ne_zero⟩
  | q :: P, L, f, h => by
    by_cases hz : ∀ u ∈ L, f u q = 0
    · obtain ⟨c, h1, h2, h3⟩ := dep P L f (by rw [List.length_cons] at h; omega)
      refine ⟨c, h1, h2, fun p hp => ?_⟩
      rcases List.mem_cons.mp hp with rfl | hp
      · rw [sum_congr (g := fun _ => 0) fun x hx => ?_, sum_zero]
        rw [hz x.2 (by rw [← h1]; exact List.mem_map.mpr ⟨x, hx, rfl⟩), Int.mul_zero]
      · exact h3 p hp
    · obtain ⟨w, hw, hne⟩ : ∃ w ∈ L, f w q ≠ 0 := by
        apply Classical.byContradiction
        intro hc
        exact hz fun u hu => Classical.byContradiction fun z => hc ⟨u, hu, z⟩
      obtain ⟨A, B, rfl⟩ := List.append_of_mem hw
      obtain ⟨c, h1, ⟨x0, hx0, hx1⟩, h3⟩ := dep P (A ++ B) (fun u p => f w q * f u p - f u q * f w p) (by
        simp only [List.length_append, List.length_cons] at h ⊢; omega)
      obtain ⟨cA, cB, rfl, hA, hB⟩ := List.map_eq_append_iff.mp h1
      have key : ∀ p, (((cA.map fun x => (x.1 * f w q, x.2)) ++ (-((cA ++ cB).map fun x => x.1 * f x.2 q).sum, w) :: (cB.map fun x => (x.1 * f w q, x.2))).map fun x => x.1 * f x.2 p).sum =
          ((cA ++ cB).map fun x => x.1 * (f w q * f x.2 p - f x.2 q * f w p)).sum := by
        intro p
        have e : ∀ l : List (Int × α), (l.map fun x => x.1 * (f w q * f x.2 p - f x.2 q * f w p)).sum = (l.map fun x => x.1 * f w q * f x.2 p).sum + (-(l.map fun x => x.1 * f x.2 q).sum) * f w p := by
          intro l
          induction l with
          | nil => simp
          | cons x l ih =>
            simp only [List.map_cons, List.sum_cons, ih]
            simp only [Int.mul_sub, Int.neg_add, Int.add_mul, Int.neg_mul, Int.mul_assoc]
            omega
        rw [e, sum_app, List.map_cons, List.sum_cons, List.map_map, List.map_map]
        rw [sum_app (fun x : Int × α => x.1 * f w q * f x.2 p)]
        simp only [Function.comp_def]
        omega
      refine ⟨(cA.map fun x => (x.1 * f w q, x.2)) ++ (-((cA ++ cB).map fun x => x.1 * f x.2 q).sum, w) :: (cB.map fun x => (x.1 * f w q, x.2)), ?_, ?_, fun p hp => ?_⟩
      · rw [List.map_append, List.map_cons, List.map_map, List.map_map, ← hA, ← hB]; rfl
      · refine ⟨(x0.1 * f w q, x0.2), ?_, fun z => ?_⟩
        · rcases List.mem_append.mp hx0 with hm | hm
          · exact List.mem_append_left _ (List.mem_map.mpr ⟨x0, hm, rfl⟩)
          · exact List.mem_append_right _ (List.mem_cons_of_mem _ (List.mem_map.mpr ⟨x0, hm, rfl⟩))
        · rcases Int.mul_eq_zero.mp z with z | z
          · exact hx1 z
          · exact hne z
      · rw [key p]
        rcases List.mem_cons.mp hp with rfl | hp
        · rw [sum_congr (g := fun _ => 0) fun x hx => ?_, sum_zero]
          rw [Int.mul_comm (f w p), Int.sub_self, Int.mul_zero]
        · exact h3 p hp
theorem sum_pick [DecidableEq α] (f : α → Int) {g : α → α → Int} {lam s : Int} {u : α} : ∀ (c : List (Int × α)), (c.map (·.2)).Nodup → (∀ v ∈ c.map (·.2), v ≠ u → g v u = lam) → g u u = s → ∀ k, (k, u) ∈ c →
    (c.map fun x => x.1 * g x.2 u).sum = lam * (c.map (·.1)).sum + k * (s - lam)
  | [], _, _, _, k, h => by cases h
  | x :: c, nd, h1, h2, k, hk => by
    simp only [List.map_cons, List.sum_cons, List.nodup_cons] at nd ⊢
    by_cases hx : x.2 = u
    · have rest : (c.map fun y => y.1 * g y.2 u).sum = lam * (c.map (·.1)).sum := by
        rw [← sum_mul]
        refine sum_congr fun y hy => ?_
        have hm : y.2 ∈ c.map (·.2) := List.mem_map.mpr ⟨y, hy, rfl⟩
        rw [h1 y.2 (List.mem_cons_of_mem _ hm) (fun e => nd.1 (by rw [hx, ← e]; exact hm)), Int.mul_comm]
      have ex : k = x.1 := by
        rcases List.mem_cons.mp hk with e | hk
        · rw [← e]
        · exact (nd.1 (by rw [hx]; exact List.mem_map.mpr ⟨_, hk, rfl⟩)).elim
      rw [rest, hx, h2, ex]
      simp only [Int.mul_add, Int.mul_sub]
      rw [Int.mul_comm lam x.1]
      omega
    · have hk' : (k, u) ∈ c := by
        rcases List.mem_cons.mp hk with e | hk
        · exact (hx (by rw [← e])).elim
        · exact hk
      rw [sum_pick f c nd.2 (fun v hv => h1 v (List.mem_cons_of_mem _ hv)) h2 k hk', h1 x.2 List.mem_cons_self hx]
      simp only [Int.mul_add]
      rw [Int.mul_comm lam x.1]
      omega
theorem sum_neg {l : List (Int × α)} (h : ∀ x ∈ l, x.1 ≤ 0) : (l.map (·.1)).sum ≤ 0 := by
  induction l with
  | nil => simp
  | cons x l ih =>
    have := h x List.mem_cons_self
    have := ih fun y hy => h y (List.mem_cons_of_mem _ hy)
    simp only [List.map_cons, List.sum_cons]
    omega
theorem sum_pos {l : List (Int × α)} (h : ∀ x ∈ l, 0 ≤ x.1) : 0 ≤ (l.map (·.1)).sum := by
  induction l with
  | nil => simp
  | cons x l ih =>
    have := h x List.mem_cons_self
    have := ih fun y hy => h y (List.mem_cons_of_mem _ hy)
    simp only [List.map_cons, List.sum_cons]
    omega
theorem sum_one [DecidableEq α] : ∀ {l : List (Int × α)} {x : Int × α}, (l.map (·.2)).Nodup → x ∈ l → (∀ y ∈ l, y.1 ≠ 0 → y.2 = x.2) → (l.map (·.1)).sum = x.1
  | [], x, _, h, _ => by cases h
  | y :: l, x, nd, h, hz => by
    simp only [List.map_cons, List.sum_cons, List.nodup_cons] at nd ⊢
    by_cases hy : y.2 = x.2
    · have ex : x = y := by
        rcases List.mem_cons.mp h with e | h
        · exact e
        · exact (nd.1 (by rw [hy]; exact List.mem_map.mpr ⟨x, h, rfl⟩)).elim
      subst ex
      have : (l.map (·.1)).sum = 0 := by
        rw [sum_congr (g := fun _ => 0) fun z hz' => ?_, sum_zero]
        apply Classical.byContradiction
        intro hne
        have := hz z (List.mem_cons_of_mem _ hz') hne
        exact nd.1 (by rw [← this]; exact List.mem_map.mpr ⟨z, hz', rfl⟩)
      omega
    · have hy0 : y.1 = 0 := Classical.byContradiction fun q => hy (hz y List.mem_cons_self q)
      have hx : x ∈ l := by
        rcases List.mem_cons.mp h with e | h
        · exact (hy (by rw [e])).elim
        · exact h
      rw [hy0, sum_one nd.2 hx fun z hz' => hz z (List.mem_cons_of_mem _ hz')]
      omega
theorem fisher [DecidableEq α] (P : List β) (L : List α) (f : α → β → Int) (lam : Int) (hl : 0 < lam) (s : α → Int) (nd : L.Nodup)
    (h1 : ∀ u ∈ L, ∀ v ∈ L, u ≠ v → (P.map fun p => f u p * f v p).sum = lam) (h2 : ∀ u ∈ L, (P.map fun p => f u p * f u p).sum = s u)
    (h3 : ∀ u ∈ L, lam ≤ s u) (h4 : ∀ u ∈ L, ∀ v ∈ L, s u = lam → s v = lam → u = v) : L.length ≤ P.length := by
  apply Classical.byContradiction
  intro hlt
  obtain ⟨c, hc, ⟨x0, hx0, hx1⟩, hz⟩ := dep P L f (by omega)
  have ndc : (c.map (·.2)).Nodup := by rw [hc]; exact nd
  have inL : ∀ x ∈ c, x.2 ∈ L := fun x hx => by rw [← hc]; exact List.mem_map.mpr ⟨x, hx, rfl⟩
  have eq : ∀ x ∈ c, lam * (c.map (·.1)).sum + x.1 * (s x.2 - lam) = 0 := by
    intro x hx
    have hu := inL x hx
    rw [← sum_pick (fun _ => 0) (g := fun v u => (P.map fun p => f v p * f u p).sum) (u := x.2) c ndc (fun v hv hne => h1 v (by rw [← hc]; exact hv) x.2 hu hne) (h2 x.2 hu) x.1 hx]
    have e1 : (c.map fun y => y.1 * (P.map fun p => f y.2 p * f x.2 p).sum).sum = (c.map fun y => (P.map fun p => y.1 * (f y.2 p * f x.2 p)).sum).sum := sum_congr fun y _ => (sum_mul _ _ _).symm
    rw [e1, sum_swap (fun (y : Int × α) p => y.1 * (f y.2 p * f x.2 p))]
    rw [sum_congr (g := fun _ => 0) fun p hp => ?_, sum_zero]
    have e2 : (c.map fun y => y.1 * (f y.2 p * f x.2 p)).sum = (c.map fun y => f x.2 p * (y.1 * f y.2 p)).sum := sum_congr fun y _ => by rw [← Int.mul_assoc, Int.mul_comm]
    rw [e2, sum_mul, hz p hp, Int.mul_zero]
  by_cases h0 : (c.map (·.1)).sum = 0
  · have one : ∀ y ∈ c, y.1 ≠ 0 → s y.2 = lam := fun y hy hne => by
      have := eq y hy
      rw [h0, Int.mul_zero, Int.zero_add] at this
      rcases Int.mul_eq_zero.mp this with q | q
      · exact (hne q).elim
      · omega
    have := sum_one ndc hx0 fun y hy hne => h4 _ (inL y hy) _ (inL x0 hx0) (one y hy hne) (one x0 hx0 hx1)
    omega
  · rcases Int.lt_or_gt_of_ne h0 with hneg | hpos
    · have : 0 ≤ (c.map (·.1)).sum := sum_pos fun x hx => by
        have e := eq x hx
        have h5 := h3 x.2 (inL x hx)
        have h6 : lam * (c.map (·.1)).sum < 0 := Int.mul_neg_of_pos_of_neg hl hneg
        apply Classical.byContradiction
        intro hn
        have : x.1 * (s x.2 - lam) ≤ 0 := Int.mul_nonpos_of_nonpos_of_nonneg (by omega) (by omega)
        omega
      omega
    · have : (c.map (·.1)).sum ≤ 0 := sum_neg fun x hx => by
        have e := eq x hx
        have h5 := h3 x.2 (inL x hx)
        have h6 : 0 < lam * (c.map (·.1)).sum := Int.mul_pos hl hpos
        apply Classical.byContradiction
        intro hn
        have : 0 ≤ x.1 * (s x.2 - lam) := Int.mul_nonneg (by omega) (by omega)
        omega
      omega
end
end Fish
/-! Members in common, evenly shared; people and clubs changed about. -/
namespace Tw
open PySem PySem.Spec L2 DL
def meet (c d : List Int) : Int := ((c.filter fun x => decide (x ∈ d)).length : Nat)
def meets : List (List Int) → List Int
  | [] => []
  | c :: r => r.map (meet c) ++ meets r
theorem meets_idx (cs : List (List Int)) : ∀ k, (cs.zipIdx k).flatMap (fun p => (cs.drop (p.2 + 1 - k)).map (meet p.1)) = meets cs := by
  induction cs with
  | nil => intro k; rfl
  | cons x r ih =>
    intro k
    simp only [List.zipIdx_cons, List.flatMap_cons, meets]
    have e0 : k + 1 - k = 1 := by omega
    rw [e0, List.drop_succ_cons, List.drop_zero]
    congr 1
    rw [← ih (k + 1)]
    refine fm_congr fun p hp => ?_
    have hk := (List.mem_zipIdx hp).1
    have e1 : p.2 + 1 - k = (p.2 + 1 - (k + 1)) + 1 := by omega
    rw [e1, List.drop_succ_cons]
theorem zipIdx_ir {α : Type} (d : α) (l : List α) : l.zipIdx 0 = (ir 0 (l.length : Int)).map fun a => (l.getD a.toNat d, a.toNat) := by
  apply List.ext_getElem
  · simp [ir_length]
  · intro i h1 h2
    have h3 : i < l.length := by simpa using h1
    simp [ir, h3]
def meetF (cs : List (List Int)) (a : Int) : List Int := (cs.drop (a.toNat + 1)).map (meet (cs.getD a.toNat []))
theorem meet_all (cs : List (List Int)) : (ir 0 (cs.length : Int)).flatMap (meetF cs) = meets cs := by
  rw [← meets_idx cs 0, zipIdx_ir [] cs, List.flatMap_map]
  rfl
theorem meets_len : ∀ cs : List (List Int), (meets cs).length ≤ cs.length * (cs.length - 1) / 2
  | [] => Nat.zero_le _
  | c :: r => by
    have ih := meets_len r
    rw [meets, List.length_append, List.length_map, List.length_cons]
    have e : (r.length + 1) * (r.length + 1 - 1) / 2 = r.length * (r.length - 1) / 2 + r.length := by
      cases h : r.length with
      | zero => rfl
      | succ k =>
        have e2 : (k + 1 + 1) * (k + 1 + 1 - 1) = (k + 1) * (k + 1 - 1) + 2 * (k + 1) := by
          simp only [Nat.add_sub_cancel]
          rw [Nat.add_mul (k + 1) 1, Nat.one_mul, Nat.mul_add (k + 1) k 1, Nat.mul_one]
          omega
        rw [e2, Nat.add_mul_div_left _ _ (by decide : 0 < 2)]
    omega
theorem mem_meets {x : Int} : ∀ {cs : List (List Int)}, x ∈ meets cs → ∃ c ∈ cs, ∃ d ∈ cs, x = meet c d
  | c :: r, h => by
    rw [meets, List.mem_append] at h
    rcases h with h | h
    · obtain ⟨d, hd, rfl⟩ := List.mem_map.mp h
      exact ⟨c, List.mem_cons_self, d, List.mem_cons_of_mem _ hd, rfl⟩
    · obtain ⟨a, ha, b, hb, e⟩ := mem_meets h
      exact ⟨a, List.mem_cons_of_mem _ ha, b, List.mem_cons_of_mem _ hb, e⟩
theorem meets_of : ∀ {cs : List (List Int)} {c d : List Int}, c ∈ cs → d ∈ cs → c ≠ d → meet c d ∈ meets cs ∨ meet d c ∈ meets cs
  | x :: r, c, d, hc, hd, hne => by
    rw [meets, List.mem_append, List.mem_append]
    rcases List.mem_cons.mp hc with rfl | hc'
    · rcases List.mem_cons.mp hd with rfl | hd'
      · exact (hne rfl).elim
      · exact .inl (.inl (List.mem_map.mpr ⟨d, hd', rfl⟩))
    · rcases List.mem_cons.mp hd with rfl | hd'
      · exact .inr (.inl (List.mem_map.mpr ⟨c, hc', rfl⟩))
      · rcases meets_of hc' hd' hne with h | h
        · exact .inl (.inr h)
        · exact .inr (.inr h)
theorem meet_nonneg (c d : List Int) : 0 ≤ meet c d := Int.natCast_nonneg _
theorem meet_le (c d : List Int) : meet c d ≤ c.length := by
  have := List.length_filter_le (fun x => decide (x ∈ d)) c
  unfold meet
  omega
theorem sum_ind {α : Type} (q : α → Bool) : ∀ l : List α, (l.map fun p => if q p = true then (1 : Int) else 0).sum = ((l.filter q).length : Nat)
  | [] => rfl
  | x :: l => by
    rw [List.map_cons, List.sum_cons, sum_ind q l, List.filter_cons]
    by_cases h : q x = true
    · rw [if_pos h, if_pos h, List.length_cons]; omega
    · rw [if_neg h, if_neg h]; omega
def ind (c : List Int) (p : Int) : Int := if p ∈ c then 1 else 0
theorem ind_mul (c d : List Int) (p : Int) : ind c p * ind d p = if (decide (p ∈ c) && decide (p ∈ d)) = true then 1 else 0 := by
  unfold ind
  by_cases h1 : p ∈ c <;> by_cases h2 : p ∈ d <;> simp [h1, h2]
theorem ind_meet {n : Int} {c d : List Int} (hc : c.Nodup) (hr : ∀ x ∈ c, 0 ≤ x ∧ x < n) : ((ir 0 n).map fun p => ind c p * ind d p).sum = meet c d := by
  have e : ((ir 0 n).map fun p => ind c p * ind d p) = (ir 0 n).map fun p => if (decide (p ∈ c) && decide (p ∈ d)) = true then (1 : Int) else 0 := List.map_congr_left fun p _ => ind_mul c d p
  rw [e, sum_ind, meet]
  congr 1
  refine nodup_len_eq ((ir_nodup 0 n).sublist List.filter_sublist) (hc.sublist List.filter_sublist) fun x => ?_
  simp only [List.mem_filter, Bool.and_eq_true, decide_eq_true_eq, mem_ir]
  constructor
  · rintro ⟨_, h1, h2⟩; exact ⟨h1, h2⟩
  · rintro ⟨h1, h2⟩; exact ⟨hr x h1, h1, h2⟩
theorem meet_comm {n : Int} {c d : List Int} (hc : ClubV n c) (hd : ClubV n d) : meet c d = meet d c := by
  rw [← ind_meet (asc_nodup hc.asc) hc.ran, ← ind_meet (asc_nodup hd.asc) hd.ran]
  congr 1
  exact List.map_congr_left fun p _ => Int.mul_comm _ _
theorem meet_self (c : List Int) : meet c c = c.length := by
  unfold meet
  congr 1
  rw [List.filter_eq_self.mpr]
  intro a ha
  exact decide_eq_true ha
theorem meet_sub {c d : List Int} (h : meet c d = c.length) : ∀ x ∈ c, x ∈ d := by
  unfold meet at h
  have : (c.filter fun x => decide (x ∈ d)).length = c.length := by omega
  have := List.length_filter_eq_length_iff.mp this
  intro x hx
  exact of_decide_eq_true (this x hx)
def evenB (cs : List (List Int)) : Bool := decide (((uniqI (meets cs)).length : Int) < 2) && !decide (0 ∈ uniqI (meets cs))
/-- clubs that share evenly are no more than the people -/
theorem even_few {n : Int} {cs : List (List Int)} (h0 : 3 ≤ n) (hv : ∀ c ∈ cs, ClubV n c) (nd : cs.Nodup) (he : evenB cs = true) : (cs.length : Int) ≤ n := by
  unfold evenB at he
  rw [Bool.and_eq_true, decide_eq_true_eq, Bool.not_eq_true', decide_eq_false_iff_not, mem_uniqI] at he
  obtain ⟨h1, h2⟩ := he
  by_cases hs : cs.length ≤ 1
  · omega
  have one : ∀ x ∈ meets cs, ∀ y ∈ meets cs, x = y := fun x hx y hy => by
    have hx' := mem_uniqI.mpr hx
    have hy' := mem_uniqI.mpr hy
    match h : uniqI (meets cs), hx', hy', h1 with
    | [a], hx', hy', _ =>
      rw [List.mem_singleton] at hx' hy'
      rw [hx', hy']
    | a :: b :: r, _, _, h1 => simp only [List.length_cons] at h1; omega
  obtain ⟨a, b, r, e⟩ : ∃ a b r, cs = a :: b :: r := by
    match cs, hs with
    | a :: b :: r, _ => exact ⟨a, b, r, rfl⟩
    | [_], hs => simp at hs
    | [], hs => simp at hs
  have hm : meet a b ∈ meets cs := by rw [e, meets, List.map_cons]; exact List.mem_append_left _ List.mem_cons_self
  have all : ∀ c ∈ cs, ∀ d ∈ cs, c ≠ d → meet c d = meet a b := fun c hc d hd hne => by
    rcases meets_of hc hd hne with h | h
    · exact one _ h _ hm
    · rw [meet_comm (hv c hc) (hv d hd)]; exact one _ h _ hm
  have other : ∀ c ∈ cs, ∃ d ∈ cs, c ≠ d := fun c hc => by
    have hab : a ≠ b := by
      rw [e, List.nodup_cons] at nd
      intro q
      exact nd.1 (q ▸ List.mem_cons_self)
    by_cases q : c = a
    · exact ⟨b, by rw [e]; simp, fun z => hab (q ▸ z)⟩
    · exact ⟨a, by rw [e]; simp, q⟩
  have pos : 0 < meet a b := by
    have := meet_nonneg a b
    have : meet a b ≠ 0 := fun z => h2 (z ▸ hm)
    omega
  have := Fish.fisher (ir 0 n) cs ind (meet a b) pos (fun c => (c.length : Int)) nd (fun u hu v hv' hne => by rw [ind_meet (asc_nodup (hv u hu).asc) (hv u hu).ran]; exact all u hu v hv' hne)
    (fun u hu => by rw [ind_meet (asc_nodup (hv u hu).asc) (hv u hu).ran, meet_self]) (fun u hu => by
      obtain ⟨d, hd, hne⟩ := other u hu
      rw [← all u hu d hd hne]
      exact meet_le u d) (fun u hu v hv' eu ev => by
      apply Classical.byContradiction
      intro hne
      have s1 := meet_sub (c := u) (d := v) (by rw [all u hu v hv' hne]; exact eu.symm)
      have s2 := meet_sub (c := v) (d := u) (by rw [all v hv' u hu (Ne.symm hne)]; exact ev.symm)
      exact hne (Tw.asc_ext (hv u hu).asc (hv v hv').asc fun x => ⟨s1 x, s2 x⟩))
  rw [ir_length] at this
  omega
/-! ### the keys of a dict, first come -/
def kE (k : Int) : Key × PyData := (.inl k, .bool true)
def kf (L : List Int) : List Int := L.foldl (fun ks k => if k ∈ ks then ks else ks ++ [k]) []
theorem kf_snoc (L : List Int) (x : Int) : kf (L ++ [x]) = if x ∈ kf L then kf L else kf L ++ [x] := by
  unfold kf
  rw [List.foldl_append]
  rfl
theorem kf_inv : ∀ (L ks : List Int), ks.Nodup → (L.foldl (fun ks k => if k ∈ ks then ks else ks ++ [k]) ks).Nodup ∧ ∀ x, x ∈ L.foldl (fun ks k => if k ∈ ks then ks else ks ++ [k]) ks ↔ x ∈ ks ∨ x ∈ L
  | [], ks, h => ⟨h, fun x => by simp⟩
  | k :: L, ks, h => by
    rw [List.foldl_cons]
    by_cases hk : k ∈ ks
    · rw [if_pos hk]
      obtain ⟨h1, h2⟩ := kf_inv L ks h
      refine ⟨h1, fun x => ?_⟩
      rw [h2, List.mem_cons]
      constructor
      · rintro (q | q)
        · exact .inl q
        · exact .inr (.inr q)
      · rintro (q | q | q)
        · exact .inl q
        · exact .inl (q ▸ hk)
        · exact .inr q
    · rw [if_neg hk]
      obtain ⟨h1, h2⟩ := kf_inv L (ks ++ [k]) (nodup_app h (by simp) fun x hx hx' => hk (by rw [List.mem_singleton] at hx'; exact hx' ▸ hx))
      refine ⟨h1, fun x => ?_⟩
      rw [h2, List.mem_append, List.mem_singleton, List.mem_cons]
      constructor
      · rintro ((q | q) | q)
        · exact .inl q
        · exact .inr (.inl q)
        · exact .inr (.inr q)
      · rintro (q | q | q)
        · exact .inl (.inl q)
        · exact .inl (.inr q)
        · exact .inr q
theorem kf_nodup (L : List Int) : (kf L).Nodup := (kf_inv L [] List.nodup_nil).1
theorem mem_kf {L : List Int} {x : Int} : x ∈ kf L ↔ x ∈ L := by
  have := (kf_inv L [] List.nodup_nil).2 x
  simpa [kf] using this
theorem kf_put (ks : List Int) (k : Int) : putKD (ks.map kE) (.inl k) (.bool true) = (if k ∈ ks then ks else ks ++ [k]).map kE := by
  unfold putKD
  have e : ((ks.map kE).any fun p => decide (p.1 = .inl k)) = decide (k ∈ ks) := by
    induction ks with
    | nil => rfl
    | cons x r ih =>
      rw [List.map_cons, List.any_cons, ih]
      by_cases h : x = k
      · simp [kE, h]
      · simp [kE, h, Ne.symm h]
  rw [e]
  by_cases h : k ∈ ks
  · rw [if_pos (decide_eq_true h), if_pos h, List.map_map]
    refine List.map_congr_left fun x _ => ?_
    show (if (kE x).1 = .inl k then ((kE x).1, PyData.bool true) else kE x) = kE x
    by_cases hx : (kE x).1 = Sum.inl k
    · rw [if_pos hx]; rfl
    · rw [if_neg hx]
  · rw [if_neg (by simpa using h), if_neg h, List.map_append]
    rfl
theorem keysI_kE (ks : List Int) : keysI (ks.map kE) = some ks := by
  induction ks with
  | nil => rfl
  | cons x r ih => rw [List.map_cons, kE, keysI, ih]; rfl
theorem kf_sorted {L ys : List Int} (hp : ys.Perm (kf L)) (hs : ys.Pairwise (· ≤ ·)) : ys = uniqI L := by
  have nd : ys.Nodup := hp.nodup_iff.mpr (kf_nodup L)
  have : ys.Pairwise (· < ·) := by
    have := List.pairwise_and_iff.mpr ⟨hs, nd⟩
    exact this.imp fun h => by omega
  exact Tw.asc_ext this (asc_uniqI L) fun x => by rw [hp.mem_iff, mem_kf, mem_uniqI]
theorem bound_len {l : List Int} (nd : l.Nodup) (h : ∀ x ∈ l, 0 ≤ x ∧ x ≤ 31) : l.length ≤ 32 := by
  have := nodup_len (m := ir 0 32) nd fun x hx => mem_ir.mpr (by have := h x hx; omega)
  rw [ir_length] at this
  exact this
theorem kf_len {L : List Int} (h : ∀ x ∈ L, 0 ≤ x ∧ x ≤ 31) : (kf L).length ≤ 32 := bound_len (kf_nodup L) fun x hx => h x (mem_kf.mp hx)
theorem uniqI_len {L : List Int} (h : ∀ x ∈ L, 0 ≤ x ∧ x ≤ 31) : (uniqI L).length ≤ 32 := bound_len ((asc_uniqI L).imp fun h => Int.ne_of_lt h) fun x hx => h x (mem_uniqI.mp hx)
theorem meets_bd {n : Int} {cs : List (List Int)} (hn : n ≤ 31) (h : ∀ c ∈ cs, ClubV n c) : ∀ x ∈ meets cs, 0 ≤ x ∧ x ≤ 31 := fun x hx => by
  obtain ⟨c, hc, d, hd, rfl⟩ := mem_meets hx
  have h1 := meet_nonneg c d
  have h2 := meet_le c d
  have h3 := (h c hc).less
  omega
theorem fNotIn_iL (x : Int) (l : List Int) : fNotIn (.int x) (.list (l.map .int)) = some (.bool (!decide (x ∈ l))) := (fIn_map .int eqv_int (fun a => Sh.int 2 a) x l).2.2.1.trans (by congr)
theorem fNe_C (a b : List Int) : fNe (encC a) (encC b) = some (.bool (!decide (a = b))) := by
  unfold fNe
  rw [(sh_C a).shaped, (sh_C b).shaped, eqv_C]
  rfl
theorem pairsN_len7 {n : Int} (h : n ≤ 7) : (pairsN n).length ≤ 49 := by
  unfold pairsN
  refine Nat.le_trans (len_flatMap_le _ 7 _ fun x hx => ?_) ?_
  · have := mem_ir.mp hx
    rw [List.length_map, ir_length]; omega
  · rw [ir_length]; omega
/-! ### turned -/
def lotR (cs : List (List Int)) (p : Int) : List Int := (ir 0 (cs.length : Int)).filter fun k => decide (p ∈ cs.getD k.toNat [])
def lotsN (n : Int) (cs : List (List Int)) : List (List Int) := (ir 0 n).map (lotR cs)
theorem lot_idx (cs : List (List Int)) (p : Int) : ((cs.zipIdx 0).filter fun q => decide (p ∈ q.1)).map (fun q => (q.2 : Int)) = lotR cs p := by
  rw [zipIdx_ir [] cs, List.filter_map, List.map_map, lotR]
  have : ∀ l : List Int, (∀ k ∈ l, 0 ≤ k) → (l.filter ((fun q : List Int × Nat => decide (p ∈ q.1)) ∘ fun a => (cs.getD a.toNat [], a.toNat))).map ((fun q : List Int × Nat => (q.2 : Int)) ∘ fun a => (cs.getD a.toNat [], a.toNat)) = l.filter fun k => decide (p ∈ cs.getD k.toNat []) := by
    intro l
    induction l with
    | nil => intro _; rfl
    | cons x r ih =>
      intro h
      have hx := h x List.mem_cons_self
      have ih := ih fun k hk => h k (List.mem_cons_of_mem _ hk)
      rw [List.filter_cons, List.filter_cons]
      by_cases hp : p ∈ cs.getD x.toNat []
      · simp only [Function.comp, hp, decide_true, if_true, List.map_cons] at ih ⊢
        rw [ih, Int.toNat_of_nonneg hx]
      · simp only [Function.comp, hp, decide_false, if_false, Bool.false_eq_true] at ih ⊢
        exact ih
  exact this _ fun k hk => (mem_ir.mp hk).1
theorem lotR_asc (cs : List (List Int)) (p : Int) : (lotR cs p).Pairwise (· < ·) := List.Pairwise.sublist List.filter_sublist (ir_asc _ _)
theorem lotR_ran {cs : List (List Int)} {p k : Int} (h : k ∈ lotR cs p) : 0 ≤ k ∧ k < cs.length := mem_ir.mp (List.mem_filter.mp h).1
theorem lotR_len (cs : List (List Int)) (p : Int) : (lotR cs p).length ≤ cs.length := by
  have := List.length_filter_le (fun k : Int => decide (p ∈ cs.getD k.toNat [])) (ir 0 (cs.length : Int))
  rw [ir_length] at this
  unfold lotR
  omega
def goodB (n : Int) (cs : List (List Int)) : Bool := decide (3 ≤ (cs.length : Int)) && decide ((cs.length : Int) ≤ 31) && decide (((dedup (lotsN n cs)).length : Int) = n) &&
  (lotsN n cs).all fun l => decide (1 < (l.length : Int)) && decide ((l.length : Int) < cs.length)
theorem sortOk_C' (cs : List (List Int)) : sortOk (cs.map encC) = true := by
  simp only [sortOk, Bool.and_eq_true, Bool.or_eq_true, List.all_eq_true, (sh_Cs cs).shaped, and_true]
  refine ⟨fun x hx y hy => ?_, .inl fun x hx => ?_⟩
  · obtain ⟨a, _, rfl⟩ := List.mem_map.mp hx
    obtain ⟨b, _, rfl⟩ := List.mem_map.mp hy
    exact alike_C a b
  · obtain ⟨a, ha, rfl⟩ := List.mem_map.mp hx
    rfl
theorem chain_asc : ∀ {l : List (List Int)}, (∀ i, ∀ a b, l[i]? = some a → l[i + 1]? = some b → a < b) → l.Pairwise (· < ·)
  | [], _ => .nil
  | [x], _ => by simp
  | x :: y :: r, h => by
    have ih := chain_asc (l := y :: r) fun i a b ha hb => h (i + 1) a b (by simpa using ha) (by simpa using hb)
    have hxy := h 0 x y rfl rfl
    refine List.pairwise_cons.mpr ⟨fun z hz => ?_, ih⟩
    rcases List.mem_cons.mp hz with rfl | hz
    · exact hxy
    · exact List.lt_trans hxy ((List.pairwise_cons.mp ih).1 z hz)
theorem countP_two {α : Type} {q : α → Bool} : ∀ {l : List α} {c d : α}, c ∈ l → d ∈ l → c ≠ d → q c = true → q d = true → 2 ≤ l.countP q
  | x :: r, c, d, hc, hd, hne, qc, qd => by
    rw [List.countP_cons]
    rcases List.mem_cons.mp hc with rfl | hc'
    · rcases List.mem_cons.mp hd with rfl | hd'
      · exact (hne rfl).elim
      · have : 0 < r.countP q := List.countP_pos_iff.mpr ⟨d, hd', qd⟩
        rw [if_pos qc]; omega
    · rcases List.mem_cons.mp hd with rfl | hd'
      · have : 0 < r.countP q := List.countP_pos_iff.mpr ⟨c, hc', qc⟩
        rw [if_pos qd]; omega
      · have := countP_two hc' hd' hne qc qd
        omega
/-- clubs that are apart, or share one, are no more than the pairs -/
theorem single_few {n : Int} {cs : List (List Int)} (hv : ∀ c ∈ cs, ClubV n c) (nd : cs.Nodup) (h : Single cs) : cs.length ≤ (pairsN n).length := by
  have key : ∀ c ∈ cs, ∃ a b r, c = a :: b :: r := fun c hc => by
    have := (hv c hc).two
    match c, this with
    | a :: b :: r, _ => exact ⟨a, b, r, rfl⟩
    | [_], h => simp at h
    | [], h => simp at h
  have e : cs.length = (cs.map fun c => (c.getD 0 0, c.getD 1 0)).length := by rw [List.length_map]
  rw [e]
  refine nodup_len ?_ fun p hp => ?_
  · refine List.pairwise_map.mpr (List.Pairwise.imp_of_mem (fun {c d} hc hd hne e => hne ?_) nd)
    apply Classical.byContradiction
    intro hcd
    obtain ⟨a, b, r, rfl⟩ := key c hc
    obtain ⟨a', b', r', rfl⟩ := key d hd
    simp only [List.getD_cons_zero, List.getD_cons_succ, Prod.mk.injEq] at e
    obtain ⟨rfl, rfl⟩ := e
    have hab : a < b := (List.pairwise_cons.mp (hv _ hc).asc).1 b List.mem_cons_self
    have h1 := h a b hab
    have h2 := countP_two (q := fun c => decide (a ∈ c) && decide (b ∈ c)) hc hd hcd (by simp) (by simp)
    unfold both at h1
    omega
  · obtain ⟨c, hc, rfl⟩ := List.mem_map.mp hp
    obtain ⟨a, b, r, rfl⟩ := key c hc
    have hv' := hv _ hc
    have hab : a < b := (List.pairwise_cons.mp hv'.asc).1 b List.mem_cons_self
    have h1 := hv'.ran a (by simp)
    have h2 := hv'.ran b (by simp)
    exact mem_pairsN.mpr ⟨h1.1, hab, h2.2⟩
end Tw
namespace K4
open PySem PySem.Spec L2 DL
def topS (i : Nat) : Stmt := PySem.Challenge.pw_pairclubs_k04_whole_shares.main.body.getD i (.Pass ⟨0, 0, 0, 0⟩)
structure Txt (mg : Str → Option Value) : Prop where
  len : mg "len" = none
  isinstance : mg "isinstance" = none
  int : mg "int" = none
  bool : mg "bool" = none
  str : mg "str" = none
  tuple : mg "tuple" = none
  list : mg "list" = none
  dict : mg "dict" = none
  sorted : mg "sorted" = none
  range : mg "range" = none
  enumerate : mg "enumerate" = none
  zip : mg "zip" = none
  all : mg "all" = none
  set : mg "set" = none
  sum : mg "sum" = none
  max : mg "max" = none
  min : mg "min" = none
  MOST_PEOPLE : ∃ t, mg "MOST_PEOPLE" = some (.int 31 t)
def isNum (v : PyData) (lo hi : Int) : Bool := match v with
  | .int i => decide (lo ≤ i) && decide (i ≤ hi)
  | _ => false
def ltP : PyData → Bool
  | .tuple [.int a, .int b] => decide (a < b)
  | _ => false
def clubB (n : Int) (v : PyData) : Bool := match v with
  | .tuple l => decide (2 ≤ (l.length : Int)) && decide ((l.length : Int) < n) && l.all (fun x => isNum x 0 (n - 1)) && (zipD l (cutL l (some 1) none)).all ltP
  | _ => false
def g_is_number : Gf := fun ds QD _ => match ds with
  | [.d v, .d (.int lo), .d (.int hi)] => QD (.bool (isNum v lo hi))
  | _ => False
def g_is_club : Gf := fun ds QD _ => match ds with
  | [.d (.int n), .d v] => QD (.bool (clubB n v))
  | _ => False
theorem isNum_int {v : PyData} {lo hi : Int} (h : isNum v lo hi = true) : ∃ i, v = .int i := by
  cases v <;> simp [isNum] at h
  exact ⟨_, rfl⟩
theorem mem_zipD {xs ys : List PyData} {d : PyData} (h : d ∈ zipD xs ys) : ∃ a b, d = pairD a b ∧ a ∈ xs ∧ b ∈ ys := by
  unfold zipD at h
  obtain ⟨i, hi⟩ := List.mem_iff_getElem?.mp h
  rw [List.getElem?_zipWith] at hi
  cases h1 : xs[i]? with
  | none => rw [h1] at hi; simp at hi
  | some a =>
    cases h2 : ys[i]? with
    | none => rw [h1, h2] at hi; simp at hi
    | some b =>
      rw [h1, h2] at hi
      simp at hi
      exact ⟨a, b, hi.symm, List.mem_of_getElem? h1, List.mem_of_getElem? h2⟩
theorem mem_cutL {α : Type} {l : List α} {lo hi : Option Int} {x : α} (h : x ∈ cutL l lo hi) : x ∈ l := List.mem_of_mem_drop (List.mem_of_mem_take h)
section
variable {P : Program} {w : World} {K : PySem.W.Frag} {mg : Str → Option Value} {base : Heap} {T : List Addr}
abbrev s_is_number : Stmt := topS 5
theorem sc_is_number : FnScope ["value", "low", "high"] ["value", "low", "high"] (defScope s_is_number) := ⟨rfl, rfl, rfl, by decide +kernel, rfl, by decide +kernel, by decide +kernel⟩
theorem len_is_number (ds : List DV) (QD : PyData → Prop) (XD : Ex → Prop) (h : g_is_number ds QD XD) : ∃ v lo hi, ds = [.d v, .d (.int lo), .d (.int hi)] ∧ QD (.bool (isNum v lo hi)) := by
  unfold g_is_number at h
  split at h
  · exact ⟨_, _, _, rfl, h⟩
  · exact h.elim
theorem ok_is_number {c : Addr} (F : FunC K mg "is_number" s_is_number c) (Tx : Txt mg) : Cal P w K mg base T 1 "is_number" ["value", "low", "high"] g_is_number := by
  have nd := sc_is_number.nd
  refine cal_of (P := P) (w := w) (K := K) (mg := mg) (base := base) (T := T) F sc_is_number (fun ds QD XD h => by obtain ⟨_, _, _, rfl, _⟩ := len_is_number ds QD XD h; rfl) _ (fun _ _ _ _ _ _ us hl => match us, hl with | [_, _, _], _ => rfl) (fun f A outer s H E XD B => (psd_one (psd_ret (pd_and (pd_is1 .int (by rfl) Tx.isinstance (pd_var (pv 0)) (by rfl) Tx.int bt_int) (pd_and (pd_not (pd_is1 .bool (by rfl) Tx.isinstance (pd_var (pv 0)) (by rfl) Tx.bool bt_bool)) (pd_one (pd_chain (op_leD (B.room.u64)) (op_leD (B.room.u64)) (pd_var (pv 1)) (pd_var (pv 0)) (pd_var (pv 2))))))))) ?_
  intro ds QD XD h
  obtain ⟨v, lo, hi, rfl, q⟩ := len_is_number ds QD XD h
  cases v <;> simp only [v_var, v_c, v_g2, v_gN, v_op, v_B, v_chain, v_and, v_or, v_not, v_andV, v_orV, v_notV, v_if, v_nil, v_cons, v_tup, v_lst, v_call, v_fn, v_next, v_seq, v_break, v_contS, v_drop, v_ret, v_retN, v_retOwn, v_retOwnN, v_ifS, v_never, v_asg, v_gname, v_gnil, v_gcons, v_gtup, v_is1, v_is2, v_tru, v_noPart, v_part, v_cut, v_dnew, v_fdnew, v_flst, v_flstRg, v_span, v_rg1, v_rg2, v_frep, v_fdict, v_asgF, v_append, v_extend, v_popAt, v_pop, v_augIx, v_for, v_while, v_any, v_range1, v_range2, v_zip, v_enumT, v_enum, v_vals, v_items, v_yes, v_lc, v_lcOwn, v_lc2, v_all, v_dc, v_dcOwn, v_par, v_parF, v_par3F, v_par3L, v_inN, v_dget, v_dput, v_daug, v_rel, opt_some, opt_none, opt_ite, opt_map, isD_d, isB_b, isI_i, isL_l, isT'_t, isDict_d, isDV_d, dat1_d, dat2_d, vget_d, vget_row, vget_own, vget_oN, ownL_o, ownN_o, look_nil, look_zero, look_succ, cont_d, cont_vw, rd_d', rd_own', dd_d', dd_oN', startD, List.map_cons, List.map_nil, List.length_cons, List.length_nil, List.replicate, List.cons_append, List.nil_append, List.append_nil, List.set_cons_zero, List.set_cons_succ, List.set_nil, hide, wipeD, noOwn, datas, conts, rds, Nat.reduceAdd, Nat.reduceSub, List.all_cons, List.all_nil, DV.isOwn, fAdd, fInt, fSub, fFDiv, fMod, fMul, fIs, fIsNot, fIx, fCut, isT, cLen, cTuple, cList, cSum, cMax, cMin, cInt, cStr, truD, seqD, zipOf, isNone, fAddI, Bool.not_true, Bool.not_false, Bool.and_true, Bool.true_and, Bool.and_false, Bool.false_and, Bool.or_true, Bool.true_or, Bool.or_false, Bool.false_or, if_true, if_false, Bool.false_eq_true, ite_true, ite_false, reduceCtorEq, Tw.fEq_i, Tw.fNe_i, Tw.fIn_i, Tw.fIn_iC, Tw.fIn_iL, Tw.fNotIn_iC, Tw.fIn_P, Tw.fNotIn_P, Tw.fNotIn_C, Tw.fLt_C, Tw.fLt_i, Tw.fGt_i, Tw.fLe_i, Tw.fGe_i, Tw.atI_0, Tw.atI_1, Tw.atI_2, true_and, and_true, eq_self, isNum] <;> simp only [isNum] at q <;> try exact q
  split <;> rename_i h <;> simpa [h] using q
abbrev s_is_club : Stmt := topS 6
theorem sc_is_club : FnScope ["people", "value", "one", "other"] ["people", "value"] (defScope s_is_club) := ⟨rfl, rfl, rfl, by decide +kernel, rfl, by decide +kernel, by decide +kernel⟩
theorem len_is_club (ds : List DV) (QD : PyData → Prop) (XD : Ex → Prop) (h : g_is_club ds QD XD) : ∃ n v, ds = [.d (.int n), .d v] ∧ QD (.bool (clubB n v)) := by
  unfold g_is_club at h
  split at h
  · exact ⟨_, _, rfl, h⟩
  · exact h.elim
theorem ok_is_club {c Pt : Addr} (F : FunC K mg "is_club" s_is_club c) (Tx : Txt mg) (TB : GxR.TabB base mg c Pt ∧ Pt ∈ T) (c_is_number : Cal P w K mg base T 1 "is_number" ["value", "low", "high"] g_is_number) : Cal P w K mg base T 3 "is_club" ["people", "value"] g_is_club := by
  have nd := sc_is_club.nd
  refine cal_of (P := P) (w := w) (K := K) (mg := mg) (base := base) (T := T) F sc_is_club (fun ds QD XD h => by obtain ⟨_, _, rfl, _⟩ := len_is_club ds QD XD h; rfl) _ (fun _ _ _ _ _ _ us hl => match us, hl with | [_, _], _ => rfl) (fun f A outer s H E XD B => (psd_cons (psd_if (PWD.pt (pwd_or (ptd_not (ptd_val (pd_is1 .tuple (by rfl) Tx.isinstance (pd_var (pv 1)) (by rfl) Tx.tuple bt_tuple))) (pwd_or1 (ptd_not (ptd_chain (op_leD (B.room.u64)) (op_ltD (B.room.u64)) pd_int (pd_callB (call_lenD) (by rfl) Tx.len bt_len (pad_cons (pd_var (pv 1)) pad_nil)) (pd_var (pv 0))))))) (psd_one (psd_ret pd_bl))
    psd_nil)
    (psd_cons (psd_if (ptd_not (ptd_val (pd_all (k := 1) (own := [("one", 2)]) B.room rfl nd (by rfl) Tx.all TB.1 TB.2 rfl ⟨rfl, by decide, rfl⟩ (blkOk_by (by first | rfl | kernel_rfl)) (pid_any (pd_var (pv 1))) (fun s H C cd A fp => (pgd_name (pg_name (i := 2) nd rfl (by first | exact .inl rfl | exact .inr rfl)))) (fun s H C cd A fp hr1 => (pd_callC c_is_number (hr1.mono (by first | decide | exact Nat.le_refl _)) passL (pad_cons (pd_var (pv 2)) (pad_cons pd_int (pad_cons (pd_op op_subD (pd_var (pv 0)) pd_int) pad_nil)))))))) (psd_one (psd_ret pd_bl))
    psd_nil)
    (psd_one (psd_ret (pd_all (k := 1) (own := [("one", 2), ("other", 3)]) B.room rfl nd (by rfl) Tx.all TB.1 TB.2 rfl ⟨rfl, by decide, rfl⟩ (blkOk_by (by first | rfl | kernel_rfl)) (pid_zip (by rfl) Tx.zip (pad_cons (pd_var (pv 1)) (pad_cons (pd_slice (pd_var (pv 1)) (pod_some pd_int) pod_none) pad_nil))) (fun s H C cd A fp => (pgd_tup (n := 2) rfl (pgsd_cons (pgd_name (pg_name (i := 2) nd rfl (by first | exact .inl rfl | exact .inr rfl))) (pgsd_cons (pgd_name (pg_name (i := 3) nd rfl (by first | exact .inl rfl | exact .inr rfl))) pgsd_nil)))) (fun s H C cd A fp hr1 => (pd_cmp (op_ltD (hr1.u64)) (pd_var (pv 2)) (pd_var (pv 3)) (by rfl))))))))) ?_
  intro ds QD XD h
  obtain ⟨n, v, rfl, q⟩ := len_is_club ds QD XD h
  cases v <;> simp only [v_var, v_c, v_g2, v_gN, v_op, v_B, v_chain, v_and, v_or, v_not, v_andV, v_orV, v_notV, v_if, v_nil, v_cons, v_tup, v_lst, v_call, v_fn, v_next, v_seq, v_break, v_contS, v_drop, v_ret, v_retN, v_retOwn, v_retOwnN, v_ifS, v_never, v_asg, v_gname, v_gnil, v_gcons, v_gtup, v_is1, v_is2, v_tru, v_noPart, v_part, v_cut, v_dnew, v_fdnew, v_flst, v_flstRg, v_span, v_rg1, v_rg2, v_frep, v_fdict, v_asgF, v_append, v_extend, v_popAt, v_pop, v_augIx, v_for, v_while, v_any, v_range1, v_range2, v_zip, v_enumT, v_enum, v_vals, v_items, v_yes, v_lc, v_lcOwn, v_lc2, v_all, v_dc, v_dcOwn, v_par, v_parF, v_par3F, v_par3L, v_inN, v_dget, v_dput, v_daug, v_rel, opt_some, opt_none, opt_ite, opt_map, isD_d, isB_b, isI_i, isL_l, isT'_t, isDict_d, isDV_d, dat1_d, dat2_d, vget_d, vget_row, vget_own, vget_oN, ownL_o, ownN_o, look_nil, look_zero, look_succ, cont_d, cont_vw, rd_d', rd_own', dd_d', dd_oN', startD, List.map_cons, List.map_nil, List.length_cons, List.length_nil, List.replicate, List.cons_append, List.nil_append, List.append_nil, List.set_cons_zero, List.set_cons_succ, List.set_nil, hide, wipeD, noOwn, datas, conts, rds, Nat.reduceAdd, Nat.reduceSub, List.all_cons, List.all_nil, DV.isOwn, fAdd, fInt, fSub, fFDiv, fMod, fMul, fIs, fIsNot, fIx, fCut, isT, cLen, cTuple, cList, cSum, cMax, cMin, cInt, cStr, truD, seqD, zipOf, isNone, fAddI, Bool.not_true, Bool.not_false, Bool.and_true, Bool.true_and, Bool.and_false, Bool.false_and, Bool.or_true, Bool.true_or, Bool.or_false, Bool.false_or, if_true, if_false, Bool.false_eq_true, ite_true, ite_false, reduceCtorEq, Tw.fEq_i, Tw.fNe_i, Tw.fIn_i, Tw.fIn_iC, Tw.fIn_iL, Tw.fNotIn_iC, Tw.fIn_P, Tw.fNotIn_P, Tw.fNotIn_C, Tw.fLt_C, Tw.fLt_i, Tw.fGt_i, Tw.fLe_i, Tw.fGe_i, Tw.atI_0, Tw.atI_1, Tw.atI_2, true_and, and_true, eq_self, g_is_number] <;> simp only [clubB] at q <;> try exact q
  rename_i l
  by_cases h1 : 2 ≤ (l.length : Int)
  · by_cases h2 : (l.length : Int) < n
    · simp only [h1, h2, decide_true, Bool.true_and, if_true, Bool.not_true, Bool.false_eq_true, if_false] at q ⊢
      refine allD_all (fun x => isNum x 0 (n - 1)) (fun x hx R hR => ?_) ?_
      · simp only [v_var, v_c, v_g2, v_gN, v_op, v_B, v_chain, v_and, v_or, v_not, v_andV, v_orV, v_notV, v_if, v_nil, v_cons, v_tup, v_lst, v_call, v_fn, v_next, v_seq, v_break, v_contS, v_drop, v_ret, v_retN, v_retOwn, v_retOwnN, v_ifS, v_never, v_asg, v_gname, v_gnil, v_gcons, v_gtup, v_is1, v_is2, v_tru, v_noPart, v_part, v_cut, v_dnew, v_fdnew, v_flst, v_flstRg, v_span, v_rg1, v_rg2, v_frep, v_fdict, v_asgF, v_append, v_extend, v_popAt, v_pop, v_augIx, v_for, v_while, v_any, v_range1, v_range2, v_zip, v_enumT, v_enum, v_vals, v_items, v_yes, v_lc, v_lcOwn, v_lc2, v_all, v_dc, v_dcOwn, v_par, v_parF, v_par3F, v_par3L, v_inN, v_dget, v_dput, v_daug, v_rel, opt_some, opt_none, opt_ite, opt_map, isD_d, isB_b, isI_i, isL_l, isT'_t, isDict_d, isDV_d, dat1_d, dat2_d, vget_d, vget_row, vget_own, vget_oN, ownL_o, ownN_o, look_nil, look_zero, look_succ, cont_d, cont_vw, rd_d', rd_own', dd_d', dd_oN', startD, List.map_cons, List.map_nil, List.length_cons, List.length_nil, List.replicate, List.cons_append, List.nil_append, List.append_nil, List.set_cons_zero, List.set_cons_succ, List.set_nil, hide, wipeD, noOwn, datas, conts, rds, Nat.reduceAdd, Nat.reduceSub, List.all_cons, List.all_nil, DV.isOwn, fAdd, fInt, fSub, fFDiv, fMod, fMul, fIs, fIsNot, fIx, fCut, isT, cLen, cTuple, cList, cSum, cMax, cMin, cInt, cStr, truD, seqD, zipOf, isNone, fAddI, Bool.not_true, Bool.not_false, Bool.and_true, Bool.true_and, Bool.and_false, Bool.false_and, Bool.or_true, Bool.true_or, Bool.or_false, Bool.false_or, if_true, if_false, Bool.false_eq_true, ite_true, ite_false, reduceCtorEq, Tw.fEq_i, Tw.fNe_i, Tw.fIn_i, Tw.fIn_iC, Tw.fIn_iL, Tw.fNotIn_iC, Tw.fIn_P, Tw.fNotIn_P, Tw.fNotIn_C, Tw.fLt_C, Tw.fLt_i, Tw.fGt_i, Tw.fLe_i, Tw.fGe_i, Tw.atI_0, Tw.atI_1, Tw.atI_2, true_and, and_true, eq_self, g_is_number]
        cases hh : isNum x 0 (n - 1) <;> simpa [hh] using hR
      · cases ha : l.all (fun x => isNum x 0 (n - 1)) with
        | false => simpa [ha] using q
        | true =>
          simp only [ha, Bool.not_true, Bool.false_eq_true, if_false, Bool.true_and] at q ⊢
          refine allD_all ltP (fun x hx R hR => ?_) q
          obtain ⟨a, b, rfl, ha1, hb1⟩ := mem_zipD hx
          obtain ⟨i, rfl⟩ := isNum_int (List.all_eq_true.mp ha a ha1)
          obtain ⟨j, rfl⟩ := isNum_int (List.all_eq_true.mp ha b (mem_cutL hb1))
          simp only [v_var, v_c, v_g2, v_gN, v_op, v_B, v_chain, v_and, v_or, v_not, v_andV, v_orV, v_notV, v_if, v_nil, v_cons, v_tup, v_lst, v_call, v_fn, v_next, v_seq, v_break, v_contS, v_drop, v_ret, v_retN, v_retOwn, v_retOwnN, v_ifS, v_never, v_asg, v_gname, v_gnil, v_gcons, v_gtup, v_is1, v_is2, v_tru, v_noPart, v_part, v_cut, v_dnew, v_fdnew, v_flst, v_flstRg, v_span, v_rg1, v_rg2, v_frep, v_fdict, v_asgF, v_append, v_extend, v_popAt, v_pop, v_augIx, v_for, v_while, v_any, v_range1, v_range2, v_zip, v_enumT, v_enum, v_vals, v_items, v_yes, v_lc, v_lcOwn, v_lc2, v_all, v_dc, v_dcOwn, v_par, v_parF, v_par3F, v_par3L, v_inN, v_dget, v_dput, v_daug, v_rel, opt_some, opt_none, opt_ite, opt_map, isD_d, isB_b, isI_i, isL_l, isT'_t, isDict_d, isDV_d, dat1_d, dat2_d, vget_d, vget_row, vget_own, vget_oN, ownL_o, ownN_o, look_nil, look_zero, look_succ, cont_d, cont_vw, rd_d', rd_own', dd_d', dd_oN', startD, List.map_cons, List.map_nil, List.length_cons, List.length_nil, List.replicate, List.cons_append, List.nil_append, List.append_nil, List.set_cons_zero, List.set_cons_succ, List.set_nil, hide, wipeD, noOwn, datas, conts, rds, Nat.reduceAdd, Nat.reduceSub, List.all_cons, List.all_nil, DV.isOwn, fAdd, fInt, fSub, fFDiv, fMod, fMul, fIs, fIsNot, fIx, fCut, isT, cLen, cTuple, cList, cSum, cMax, cMin, cInt, cStr, truD, seqD, zipOf, isNone, fAddI, Bool.not_true, Bool.not_false, Bool.and_true, Bool.true_and, Bool.and_false, Bool.false_and, Bool.or_true, Bool.true_or, Bool.or_false, Bool.false_or, if_true, if_false, Bool.false_eq_true, ite_true, ite_false, reduceCtorEq, Tw.fEq_i, Tw.fNe_i, Tw.fIn_i, Tw.fIn_iC, Tw.fIn_iL, Tw.fNotIn_iC, Tw.fIn_P, Tw.fNotIn_P, Tw.fNotIn_C, Tw.fLt_C, Tw.fLt_i, Tw.fGt_i, Tw.fLe_i, Tw.fGe_i, Tw.atI_0, Tw.atI_1, Tw.atI_2, true_and, and_true, eq_self, pairD]
          simp only [ltP, pairD] at hR
          by_cases hij : i < j <;> simpa [hij] using hR
    · simp only [h1, h2, decide_true, decide_false, Bool.true_and, Bool.false_and, if_true, Bool.not_false] at q ⊢
      exact q
  · simp only [h1, decide_false, Bool.false_and, Bool.false_eq_true, if_false] at q ⊢
    exact q
end
end K4
namespace K4
open PySem PySem.Spec L2 DL Tw
def ltC : PyData → Bool
  | .tuple [a, b] => PySem.W.dataLt a b
  | _ => false
def wrongW (v : PyData) : PyData := match v with
  | .tuple [p, c] => if isNum p 3 31 = true then (match p, c with
      | .int n, .tuple l => if l.all (clubB n) = true then (if (zipD l (cutL l (some 1) none)).all ltC = true then .none else .str "clubs") else .str "clubs"
      | _, _ => .str "clubs") else .str "people"
  | _ => .str "whole"
theorem clubB_enc {n : Int} {v : PyData} (h : clubB n v = true) : ∃ c : List Int, v = encC c := by
  unfold clubB at h
  split at h
  · rename_i l
    simp only [Bool.and_eq_true] at h
    have ha := h.1.2
    have : ∀ l : List PyData, (l.all fun x => isNum x 0 (n - 1)) = true → ∃ c : List Int, l = c.map .int := by
      intro l
      induction l with
      | nil => intro _; exact ⟨[], rfl⟩
      | cons x r ih =>
        intro h
        simp only [List.all_cons, Bool.and_eq_true] at h
        obtain ⟨i, rfl⟩ := isNum_int h.1
        obtain ⟨c, rfl⟩ := ih h.2
        exact ⟨i :: c, rfl⟩
    obtain ⟨c, rfl⟩ := this l ha
    exact ⟨c, rfl⟩
  · cases h
def g_wrong_town : Gf := fun ds QD _ => match ds with
  | [.d v] => QD (wrongW v)
  | _ => False
theorem len1 {g : Gf} {F : PyData → (PyData → Prop) → (Ex → Prop) → Prop} (hg : ∀ ds QD XD, g ds QD XD = match ds with
  | [.d v] => F v QD XD
  | _ => False) {ds : List DV} {QD : PyData → Prop} {XD : Ex → Prop} (h : g ds QD XD) : ∃ v, ds = [.d v] ∧ F v QD XD := by
  rw [hg] at h
  split at h
  · exact ⟨_, rfl, h⟩
  · exact h.elim
section
variable {P : Program} {w : World} {K : PySem.W.Frag} {mg : Str → Option Value} {base : Heap} {T : List Addr}
abbrev s_wrong_town : Stmt := topS 7
theorem sc_wrong_town : FnScope ["value", "people", "clubs", "club", "one", "other"] ["value"] (defScope s_wrong_town) := ⟨rfl, rfl, rfl, by decide +kernel, rfl, by decide +kernel, by decide +kernel⟩
theorem ok_wrong_town {c Pt : Addr} (F : FunC K mg "wrong_town" s_wrong_town c) (Tx : Txt mg) (TB : GxR.TabB base mg c Pt ∧ Pt ∈ T) (c_is_number : Cal P w K mg base T 1 "is_number" ["value", "low", "high"] g_is_number)
    (c_is_club : Cal P w K mg base T 3 "is_club" ["people", "value"] g_is_club) : Cal P w K mg base T 5 "wrong_town" ["value"] g_wrong_town := by
  have nd := sc_wrong_town.nd
  refine cal_of (P := P) (w := w) (K := K) (mg := mg) (base := base) (T := T) F sc_wrong_town (fun ds QD XD h => by obtain ⟨_, rfl, _⟩ := len1 (g := g_wrong_town) (fun _ _ _ => rfl) h; rfl) _ (fun _ _ _ _ _ _ us hl => match us, hl with | [_], _ => rfl) (fun f A outer s H E XD B => (psd_cons (psd_if (PWD.pt (pwd_or (ptd_not (ptd_val (pd_is1 .tuple (by rfl) Tx.isinstance (pd_var (pv 0)) (by rfl) Tx.tuple bt_tuple))) (pwd_or1 (ptd_cmp (op_neDD (B.room.u64)) (pd_callB (call_lenD) (by rfl) Tx.len bt_len (pad_cons (pd_var (pv 0)) pad_nil)) pd_int (by rfl))))) (psd_one (psd_ret pd_str))
    psd_nil)
    (psd_cons (psd_asg (vs := [1, 2]) (pd_var (pv 0)) (pgd_tup (n := 2) rfl (pgsd_cons (pgd_name (pg_name (i := 1) nd rfl (by first | exact .inl rfl | exact .inr rfl))) (pgsd_cons (pgd_name (pg_name (i := 2) nd rfl (by first | exact .inl rfl | exact .inr rfl))) pgsd_nil))))
    (psd_cons (psd_if (ptd_not (ptd_val (pd_callC c_is_number (B.room.mono (by first | decide | exact Nat.le_refl _)) B.pass (pad_cons (pd_var (pv 1)) (pad_cons pd_int (pad_cons (pd_globI Tx.MOST_PEOPLE) pad_nil)))))) (psd_one (psd_ret pd_str))
    psd_nil)
    (psd_cons (psd_if (PWD.pt (pwd_or (ptd_not (ptd_val (pd_is1 .tuple (by rfl) Tx.isinstance (pd_var (pv 2)) (by rfl) Tx.tuple bt_tuple))) (pwd_or1 (ptd_not (ptd_val (pd_all (k := 3) (own := [("club", 3)]) B.room rfl nd (by rfl) Tx.all TB.1 TB.2 rfl ⟨rfl, by decide, rfl⟩ (blkOk_by (by first | rfl | kernel_rfl)) (pid_any (pd_var (pv 2))) (fun s H C cd A fp => (pgd_name (pg_name (i := 3) nd rfl (by first | exact .inl rfl | exact .inr rfl)))) (fun s H C cd A fp hr1 => (pd_callC c_is_club (hr1.mono (by first | decide | exact Nat.le_refl _)) passL (pad_cons (pd_var (pv 1)) (pad_cons (pd_var (pv 3)) pad_nil)))))))))) (psd_one (psd_ret pd_str))
    psd_nil)
    (psd_one (psd_ret (pd_ifExp (ptd_val (pd_all (k := 3) (own := [("one", 4), ("other", 5)]) B.room rfl nd (by rfl) Tx.all TB.1 TB.2 rfl ⟨rfl, by decide, rfl⟩ (blkOk_by (by first | rfl | kernel_rfl)) (pid_zip (by rfl) Tx.zip (pad_cons (pd_var (pv 2)) (pad_cons (pd_slice (pd_var (pv 2)) (pod_some pd_int) pod_none) pad_nil))) (fun s H C cd A fp => (pgd_tup (n := 2) rfl (pgsd_cons (pgd_name (pg_name (i := 4) nd rfl (by first | exact .inl rfl | exact .inr rfl))) (pgsd_cons (pgd_name (pg_name (i := 5) nd rfl (by first | exact .inl rfl | exact .inr rfl))) pgsd_nil)))) (fun s H C cd A fp hr1 => (pd_cmp (op_ltD (hr1.u64)) (pd_var (pv 4)) (pd_var (pv 5)) (by rfl))))) pd_non pd_str)))))))) ?_
  intro ds QD XD h
  obtain ⟨v, rfl, q⟩ := len1 (g := g_wrong_town) (fun _ _ _ => rfl) h
  cases v <;> simp only [v_var, v_c, v_g2, v_gN, v_op, v_B, v_chain, v_and, v_or, v_not, v_andV, v_orV, v_notV, v_if, v_nil, v_cons, v_tup, v_lst, v_call, v_fn, v_next, v_seq, v_break, v_contS, v_drop, v_ret, v_retN, v_retOwn, v_retOwnN, v_ifS, v_never, v_asg, v_gname, v_gnil, v_gcons, v_gtup, v_is1, v_is2, v_tru, v_noPart, v_part, v_cut, v_dnew, v_fdnew, v_flst, v_flstRg, v_span, v_rg1, v_rg2, v_frep, v_fdict, v_asgF, v_append, v_extend, v_popAt, v_pop, v_augIx, v_for, v_while, v_any, v_range1, v_range2, v_zip, v_enumT, v_enum, v_vals, v_items, v_yes, v_lc, v_lcOwn, v_lc2, v_all, v_dc, v_dcOwn, v_par, v_parF, v_par3F, v_par3L, v_inN, v_dget, v_dput, v_daug, v_rel, opt_some, opt_none, opt_ite, opt_map, isD_d, isB_b, isI_i, isL_l, isT'_t, isDict_d, isDV_d, dat1_d, dat2_d, vget_d, vget_row, vget_own, vget_oN, ownL_o, ownN_o, look_nil, look_zero, look_succ, cont_d, cont_vw, rd_d', rd_own', dd_d', dd_oN', startD, List.map_cons, List.map_nil, List.length_cons, List.length_nil, List.replicate, List.cons_append, List.nil_append, List.append_nil, List.set_cons_zero, List.set_cons_succ, List.set_nil, hide, wipeD, noOwn, datas, conts, rds, Nat.reduceAdd, Nat.reduceSub, List.all_cons, List.all_nil, DV.isOwn, fAdd, fInt, fSub, fFDiv, fMod, fMul, fIs, fIsNot, fIx, fCut, isT, cLen, cTuple, cList, cSum, cMax, cMin, cInt, cStr, truD, seqD, zipOf, isNone, fAddI, Bool.not_true, Bool.not_false, Bool.and_true, Bool.true_and, Bool.and_false, Bool.false_and, Bool.or_true, Bool.true_or, Bool.or_false, Bool.false_or, if_true, if_false, Bool.false_eq_true, ite_true, ite_false, reduceCtorEq, Tw.fEq_i, Tw.fNe_i, Tw.fIn_i, Tw.fIn_iC, Tw.fIn_iL, Tw.fNotIn_iC, Tw.fIn_P, Tw.fNotIn_P, Tw.fNotIn_C, Tw.fLt_C, Tw.fLt_i, Tw.fGt_i, Tw.fLe_i, Tw.fGe_i, Tw.atI_0, Tw.atI_1, Tw.atI_2, true_and, and_true, eq_self, g_is_number] <;> simp only [wrongW] at q <;> try exact q
  rename_i l
  rcases l with _ | ⟨p, _ | ⟨cl, _ | ⟨d, r⟩⟩⟩
  · simpa using q
  · simpa using q
  · have e2 : (((2 : Nat) : Int) = 2) = True := by simp
    simp only [List.length_cons, List.length_nil, Nat.reduceAdd, Nat.zero_add, e2, decide_true, Bool.not_true, Bool.false_eq_true, if_false, true_and]
    simp only [v_var, v_c, v_g2, v_gN, v_op, v_B, v_chain, v_and, v_or, v_not, v_andV, v_orV, v_notV, v_if, v_nil, v_cons, v_tup, v_lst, v_call, v_fn, v_next, v_seq, v_break, v_contS, v_drop, v_ret, v_retN, v_retOwn, v_retOwnN, v_ifS, v_never, v_asg, v_gname, v_gnil, v_gcons, v_gtup, v_is1, v_is2, v_tru, v_noPart, v_part, v_cut, v_dnew, v_fdnew, v_flst, v_flstRg, v_span, v_rg1, v_rg2, v_frep, v_fdict, v_asgF, v_append, v_extend, v_popAt, v_pop, v_augIx, v_for, v_while, v_any, v_range1, v_range2, v_zip, v_enumT, v_enum, v_vals, v_items, v_yes, v_lc, v_lcOwn, v_lc2, v_all, v_dc, v_dcOwn, v_par, v_parF, v_par3F, v_par3L, v_inN, v_dget, v_dput, v_daug, v_rel, opt_some, opt_none, opt_ite, opt_map, isD_d, isB_b, isI_i, isL_l, isT'_t, isDict_d, isDV_d, dat1_d, dat2_d, vget_d, vget_row, vget_own, vget_oN, ownL_o, ownN_o, look_nil, look_zero, look_succ, cont_d, cont_vw, rd_d', rd_own', dd_d', dd_oN', startD, List.map_cons, List.map_nil, List.length_cons, List.length_nil, List.replicate, List.cons_append, List.nil_append, List.append_nil, List.set_cons_zero, List.set_cons_succ, List.set_nil, hide, wipeD, noOwn, datas, conts, rds, Nat.reduceAdd, Nat.reduceSub, List.all_cons, List.all_nil, DV.isOwn, fAdd, fInt, fSub, fFDiv, fMod, fMul, fIs, fIsNot, fIx, fCut, isT, cLen, cTuple, cList, cSum, cMax, cMin, cInt, cStr, truD, seqD, zipOf, isNone, fAddI, Bool.not_true, Bool.not_false, Bool.and_true, Bool.true_and, Bool.and_false, Bool.false_and, Bool.or_true, Bool.true_or, Bool.or_false, Bool.false_or, if_true, if_false, Bool.false_eq_true, ite_true, ite_false, reduceCtorEq, Tw.fEq_i, Tw.fNe_i, Tw.fIn_i, Tw.fIn_iC, Tw.fIn_iL, Tw.fNotIn_iC, Tw.fIn_P, Tw.fNotIn_P, Tw.fNotIn_C, Tw.fLt_C, Tw.fLt_i, Tw.fGt_i, Tw.fLe_i, Tw.fGe_i, Tw.atI_0, Tw.atI_1, Tw.atI_2, true_and, and_true, eq_self, g_is_number]
    cases h1 : isNum p 3 31 with
    | false => simpa [h1] using q
    | true =>
      obtain ⟨n, rfl⟩ := isNum_int h1
      simp only [h1, Bool.not_true, Bool.false_eq_true, if_false, if_true] at q ⊢
      cases cl <;> simp only [v_var, v_c, v_g2, v_gN, v_op, v_B, v_chain, v_and, v_or, v_not, v_andV, v_orV, v_notV, v_if, v_nil, v_cons, v_tup, v_lst, v_call, v_fn, v_next, v_seq, v_break, v_contS, v_drop, v_ret, v_retN, v_retOwn, v_retOwnN, v_ifS, v_never, v_asg, v_gname, v_gnil, v_gcons, v_gtup, v_is1, v_is2, v_tru, v_noPart, v_part, v_cut, v_dnew, v_fdnew, v_flst, v_flstRg, v_span, v_rg1, v_rg2, v_frep, v_fdict, v_asgF, v_append, v_extend, v_popAt, v_pop, v_augIx, v_for, v_while, v_any, v_range1, v_range2, v_zip, v_enumT, v_enum, v_vals, v_items, v_yes, v_lc, v_lcOwn, v_lc2, v_all, v_dc, v_dcOwn, v_par, v_parF, v_par3F, v_par3L, v_inN, v_dget, v_dput, v_daug, v_rel, opt_some, opt_none, opt_ite, opt_map, isD_d, isB_b, isI_i, isL_l, isT'_t, isDict_d, isDV_d, dat1_d, dat2_d, vget_d, vget_row, vget_own, vget_oN, ownL_o, ownN_o, look_nil, look_zero, look_succ, cont_d, cont_vw, rd_d', rd_own', dd_d', dd_oN', startD, List.map_cons, List.map_nil, List.length_cons, List.length_nil, List.replicate, List.cons_append, List.nil_append, List.append_nil, List.set_cons_zero, List.set_cons_succ, List.set_nil, hide, wipeD, noOwn, datas, conts, rds, Nat.reduceAdd, Nat.reduceSub, List.all_cons, List.all_nil, DV.isOwn, fAdd, fInt, fSub, fFDiv, fMod, fMul, fIs, fIsNot, fIx, fCut, isT, cLen, cTuple, cList, cSum, cMax, cMin, cInt, cStr, truD, seqD, zipOf, isNone, fAddI, Bool.not_true, Bool.not_false, Bool.and_true, Bool.true_and, Bool.and_false, Bool.false_and, Bool.or_true, Bool.true_or, Bool.or_false, Bool.false_or, if_true, if_false, Bool.false_eq_true, ite_true, ite_false, reduceCtorEq, Tw.fEq_i, Tw.fNe_i, Tw.fIn_i, Tw.fIn_iC, Tw.fIn_iL, Tw.fNotIn_iC, Tw.fIn_P, Tw.fNotIn_P, Tw.fNotIn_C, Tw.fLt_C, Tw.fLt_i, Tw.fGt_i, Tw.fLe_i, Tw.fGe_i, Tw.atI_0, Tw.atI_1, Tw.atI_2, true_and, and_true, eq_self] <;> try exact q
      rename_i l
      refine allD_all (clubB n) (fun x hx R hR => ?_) ?_
      · simp only [v_var, v_c, v_g2, v_gN, v_op, v_B, v_chain, v_and, v_or, v_not, v_andV, v_orV, v_notV, v_if, v_nil, v_cons, v_tup, v_lst, v_call, v_fn, v_next, v_seq, v_break, v_contS, v_drop, v_ret, v_retN, v_retOwn, v_retOwnN, v_ifS, v_never, v_asg, v_gname, v_gnil, v_gcons, v_gtup, v_is1, v_is2, v_tru, v_noPart, v_part, v_cut, v_dnew, v_fdnew, v_flst, v_flstRg, v_span, v_rg1, v_rg2, v_frep, v_fdict, v_asgF, v_append, v_extend, v_popAt, v_pop, v_augIx, v_for, v_while, v_any, v_range1, v_range2, v_zip, v_enumT, v_enum, v_vals, v_items, v_yes, v_lc, v_lcOwn, v_lc2, v_all, v_dc, v_dcOwn, v_par, v_parF, v_par3F, v_par3L, v_inN, v_dget, v_dput, v_daug, v_rel, opt_some, opt_none, opt_ite, opt_map, isD_d, isB_b, isI_i, isL_l, isT'_t, isDict_d, isDV_d, dat1_d, dat2_d, vget_d, vget_row, vget_own, vget_oN, ownL_o, ownN_o, look_nil, look_zero, look_succ, cont_d, cont_vw, rd_d', rd_own', dd_d', dd_oN', startD, List.map_cons, List.map_nil, List.length_cons, List.length_nil, List.replicate, List.cons_append, List.nil_append, List.append_nil, List.set_cons_zero, List.set_cons_succ, List.set_nil, hide, wipeD, noOwn, datas, conts, rds, Nat.reduceAdd, Nat.reduceSub, List.all_cons, List.all_nil, DV.isOwn, fAdd, fInt, fSub, fFDiv, fMod, fMul, fIs, fIsNot, fIx, fCut, isT, cLen, cTuple, cList, cSum, cMax, cMin, cInt, cStr, truD, seqD, zipOf, isNone, fAddI, Bool.not_true, Bool.not_false, Bool.and_true, Bool.true_and, Bool.and_false, Bool.false_and, Bool.or_true, Bool.true_or, Bool.or_false, Bool.false_or, if_true, if_false, Bool.false_eq_true, ite_true, ite_false, reduceCtorEq, Tw.fEq_i, Tw.fNe_i, Tw.fIn_i, Tw.fIn_iC, Tw.fIn_iL, Tw.fNotIn_iC, Tw.fIn_P, Tw.fNotIn_P, Tw.fNotIn_C, Tw.fLt_C, Tw.fLt_i, Tw.fGt_i, Tw.fLe_i, Tw.fGe_i, Tw.atI_0, Tw.atI_1, Tw.atI_2, true_and, and_true, eq_self, g_is_club]
        cases hh : clubB n x <;> simpa [hh] using hR
      · cases ha : l.all (clubB n) with
        | false => simpa [ha] using q
        | true =>
          simp only [ha, Bool.not_true, Bool.false_eq_true, if_false, if_true] at q ⊢
          refine allD_all ltC (fun x hx R hR => ?_) ?_
          · obtain ⟨a, b, rfl, ha1, hb1⟩ := mem_zipD hx
            obtain ⟨c1, rfl⟩ := clubB_enc (List.all_eq_true.mp ha a ha1)
            obtain ⟨c2, rfl⟩ := clubB_enc (List.all_eq_true.mp ha b (mem_cutL hb1))
            simp only [v_var, v_c, v_g2, v_gN, v_op, v_B, v_chain, v_and, v_or, v_not, v_andV, v_orV, v_notV, v_if, v_nil, v_cons, v_tup, v_lst, v_call, v_fn, v_next, v_seq, v_break, v_contS, v_drop, v_ret, v_retN, v_retOwn, v_retOwnN, v_ifS, v_never, v_asg, v_gname, v_gnil, v_gcons, v_gtup, v_is1, v_is2, v_tru, v_noPart, v_part, v_cut, v_dnew, v_fdnew, v_flst, v_flstRg, v_span, v_rg1, v_rg2, v_frep, v_fdict, v_asgF, v_append, v_extend, v_popAt, v_pop, v_augIx, v_for, v_while, v_any, v_range1, v_range2, v_zip, v_enumT, v_enum, v_vals, v_items, v_yes, v_lc, v_lcOwn, v_lc2, v_all, v_dc, v_dcOwn, v_par, v_parF, v_par3F, v_par3L, v_inN, v_dget, v_dput, v_daug, v_rel, opt_some, opt_none, opt_ite, opt_map, isD_d, isB_b, isI_i, isL_l, isT'_t, isDict_d, isDV_d, dat1_d, dat2_d, vget_d, vget_row, vget_own, vget_oN, ownL_o, ownN_o, look_nil, look_zero, look_succ, cont_d, cont_vw, rd_d', rd_own', dd_d', dd_oN', startD, List.map_cons, List.map_nil, List.length_cons, List.length_nil, List.replicate, List.cons_append, List.nil_append, List.append_nil, List.set_cons_zero, List.set_cons_succ, List.set_nil, hide, wipeD, noOwn, datas, conts, rds, Nat.reduceAdd, Nat.reduceSub, List.all_cons, List.all_nil, DV.isOwn, fAdd, fInt, fSub, fFDiv, fMod, fMul, fIs, fIsNot, fIx, fCut, isT, cLen, cTuple, cList, cSum, cMax, cMin, cInt, cStr, truD, seqD, zipOf, isNone, fAddI, Bool.not_true, Bool.not_false, Bool.and_true, Bool.true_and, Bool.and_false, Bool.false_and, Bool.or_true, Bool.true_or, Bool.or_false, Bool.false_or, if_true, if_false, Bool.false_eq_true, ite_true, ite_false, reduceCtorEq, Tw.fEq_i, Tw.fNe_i, Tw.fIn_i, Tw.fIn_iC, Tw.fIn_iL, Tw.fNotIn_iC, Tw.fIn_P, Tw.fNotIn_P, Tw.fNotIn_C, Tw.fLt_C, Tw.fLt_i, Tw.fGt_i, Tw.fLe_i, Tw.fGe_i, Tw.atI_0, Tw.atI_1, Tw.atI_2, true_and, and_true, eq_self, pairD]
            simp only [ltC, pairD, lt_C] at hR
            by_cases hij : c1 < c2 <;> simpa [hij] using hR
          · cases hz : (zipD l (cutL l (some 1) none)).all ltC <;> simpa [hz] using q
  · have : ¬ ((r.length : Int) + 1 + 1 + 1 = 2) := by omega
    simpa [this] using q
end
end K4
namespace K4
open PySem PySem.Spec L2 DL Tw
theorem isNum_ok {i lo hi : Int} (h1 : lo ≤ i) (h2 : i ≤ hi) : isNum (.int i) lo hi = true := by simp [isNum, h1, h2]
theorem clubB_ok {n : Int} {c : List Int} (h : ClubV n c) : clubB n (encC c) = true := by
  have h1 : 2 ≤ (c.length : Int) := by have := h.two; omega
  have h2 : ((c.map PyData.int).all fun x => isNum x 0 (n - 1)) = true := by
    rw [List.all_eq_true]
    intro x hx
    obtain ⟨i, hi, rfl⟩ := List.mem_map.mp hx
    have := h.ran i hi
    exact isNum_ok this.1 (by omega)
  have h3 : ∀ c : List Int, c.Pairwise (· < ·) → (zipD (c.map .int) ((c.map PyData.int).drop 1)).all ltP = true := by
    intro c
    induction c with
    | nil => intro _; rfl
    | cons x r ih =>
      intro hp
      cases r with
      | nil => rfl
      | cons y r =>
        rw [List.pairwise_cons] at hp
        have := ih hp.2
        simp only [List.map_cons, List.drop_succ_cons, List.drop_zero, zipD, List.zipWith_cons_cons, List.all_cons] at this ⊢
        rw [this]
        simp [ltP, pairD, hp.1 y List.mem_cons_self]
  show (decide (2 ≤ ((c.map PyData.int).length : Int)) && decide (((c.map PyData.int).length : Int) < n) && ((c.map PyData.int).all fun x => isNum x 0 (n - 1)) && (zipD (c.map .int) (cutL (c.map PyData.int) (some 1) none)).all ltP) = true
  rw [h2, cut_from1, h3 c h.asc, List.length_map]
  simp [h1, h.less]
theorem wrongW_ok {n : Int} {cs : List (List Int)} (h : TownV n cs) : wrongW (encT n cs) = .none := by
  have h1 : isNum (.int n) 3 31 = true := isNum_ok h.lo h.hi
  have h2 : (cs.map encC).all (clubB n) = true := by
    rw [List.all_eq_true]
    intro x hx
    obtain ⟨c, hc, rfl⟩ := List.mem_map.mp hx
    exact clubB_ok (h.clubs c hc)
  have h3 : ∀ cs : List (List Int), cs.Pairwise (· < ·) → (zipD (cs.map encC) ((cs.map encC).drop 1)).all ltC = true := by
    intro c
    induction c with
    | nil => intro _; rfl
    | cons x r ih =>
      intro hp
      cases r with
      | nil => rfl
      | cons y r =>
        rw [List.pairwise_cons] at hp
        have := ih hp.2
        simp only [List.map_cons, List.drop_succ_cons, List.drop_zero, zipD, List.zipWith_cons_cons, List.all_cons] at this ⊢
        rw [this]
        simp only [ltC, pairD, Bool.and_true]
        rw [lt_C]
        exact decide_eq_true (hp.1 y List.mem_cons_self)
  show (if isNum (.int n) 3 31 = true then (if (cs.map encC).all (clubB n) = true then (if (zipD (cs.map encC) (cutL (cs.map encC) (some 1) none)).all ltC = true then PyData.none else .str "clubs") else .str "clubs") else .str "people") = .none
  rw [h1, h2, cut_from1, h3 cs h.asc]
  rfl
theorem _root_.Tw.TownS.w {n : Int} {cs : List (List Int)} (h : TownS n cs) : wrongW (encT n cs) = .none := wrongW_ok h.toTownV
theorem _root_.Tw.TownS.z {n : Int} {cs : List (List Int)} (h : TownS n cs) : cs.length ≤ sizeLine := Nat.le_trans h.few (by decide)
def g_is_town : Gf := fun ds QD _ => match ds with
  | [.d v] => QD (.bool (isNone (wrongW v)))
  | _ => False
def g_need_town : Gf := fun ds QD _ => match ds with
  | [.d v] => wrongW v = .none ∧ QD .none
  | _ => False
def g_need_person : Gf := fun ds QD _ => match ds with
  | [.d (.tuple [.int n, _]), .d v] => isNum v 0 (n - 1) = true ∧ QD .none
  | _ => False
def g_clubs_of : Gf := fun ds QD _ => match ds with
  | [.d v, .d (.int i)] => ∃ n cs, v = encT n cs ∧ TownS n cs ∧ 0 ≤ i ∧ i < n ∧ QD (.tuple ((cs.filter fun c => decide (i ∈ c)).map encC))
  | _ => False
def g_together : Gf := fun ds QD _ => match ds with
  | [.d v, .d (.int i), .d (.int j)] => ∃ n cs, v = encT n cs ∧ TownS n cs ∧ (0 ≤ i ∧ i < n) ∧ (0 ≤ j ∧ j < n) ∧ i ≠ j ∧ QD (.tuple ((cs.filter fun c => decide (i ∈ c) && decide (j ∈ c)).map encC))
  | _ => False
def g_numbers_of : Gf := fun ds QD _ => match ds with
  | [.d v] => ∃ n cs, v = encT n cs ∧ TownS n cs ∧ QD (.list ((cnt n cs.flatten).map .int))
  | _ => False
def g_members : Gf := fun ds QD _ => match ds with
  | [.d v] => ∃ n cs, v = encT n cs ∧ TownS n cs ∧ QD (.tuple ((cnt n cs.flatten).map .int))
  | _ => False
section
variable {P : Program} {w : World} {K : PySem.W.Frag} {mg : Str → Option Value} {base : Heap} {T : List Addr}
abbrev s_is_town : Stmt := topS 8
theorem sc_is_town : FnScope ["value"] ["value"] (defScope s_is_town) := ⟨rfl, rfl, rfl, by decide +kernel, rfl, by decide +kernel, by decide +kernel⟩
theorem ok_is_town {c : Addr} (F : FunC K mg "is_town" s_is_town c) (Tx : Txt mg) (c_wrong_town : Cal P w K mg base T 5 "wrong_town" ["value"] (g_wrong_town)) : Cal P w K mg base T 6 "is_town" ["value"] g_is_town := by
  have nd := sc_is_town.nd
  refine cal_of (P := P) (w := w) (K := K) (mg := mg) (base := base) (T := T) F sc_is_town (fun ds QD XD h => by unfold g_is_town at h; split at h <;> first | rfl | exact h.elim) _ (fun _ _ _ _ _ _ us hl => match us, hl with | [_], _ => rfl) (fun f A outer s H E XD B => (psd_one (psd_ret (pd_cmp op_isD (pd_callC c_wrong_town (B.room.mono (by first | decide | exact Nat.le_refl _)) B.pass (pad_cons (pd_var (pv 0)) pad_nil)) pd_non (by rfl))))) ?_
  intro ds QD XD h
  unfold g_is_town at h
  split at h
  case h_2 => exact h.elim

  rename_i v
  simp only [v_var, v_c, v_g2, v_gN, v_op, v_B, v_chain, v_and, v_or, v_not, v_andV, v_orV, v_notV, v_if, v_nil, v_cons, v_tup, v_lst, v_call, v_fn, v_next, v_seq, v_break, v_contS, v_drop, v_ret, v_retN, v_retOwn, v_retOwnN, v_ifS, v_never, v_asg, v_gname, v_gnil, v_gcons, v_gtup, v_is1, v_is2, v_tru, v_noPart, v_part, v_cut, v_dnew, v_fdnew, v_flst, v_flstRg, v_span, v_rg1, v_rg2, v_frep, v_fdict, v_asgF, v_append, v_extend, v_popAt, v_pop, v_augIx, v_for, v_while, v_any, v_range1, v_range2, v_zip, v_enumT, v_enum, v_vals, v_items, v_yes, v_lc, v_lcOwn, v_lc2, v_all, v_dc, v_dcOwn, v_par, v_parF, v_par3F, v_par3L, v_inN, v_dget, v_dput, v_daug, v_rel, opt_some, opt_none, opt_ite, opt_map, isD_d, isB_b, isI_i, isL_l, isT'_t, isDict_d, isDV_d, dat1_d, dat2_d, vget_d, vget_row, vget_own, vget_oN, ownL_o, ownN_o, look_nil, look_zero, look_succ, cont_d, cont_vw, rd_d', rd_own', dd_d', dd_oN', startD, List.map_cons, List.map_nil, List.length_cons, List.length_nil, List.replicate, List.cons_append, List.nil_append, List.append_nil, List.set_cons_zero, List.set_cons_succ, List.set_nil, hide, wipeD, noOwn, datas, conts, rds, Nat.reduceAdd, Nat.reduceSub, List.all_cons, List.all_nil, DV.isOwn, fAdd, fInt, fSub, fFDiv, fMod, fMul, fIs, fIsNot, fIx, fCut, isT, cLen, cTuple, cList, cSum, cMax, cMin, cInt, cStr, truD, seqD, zipOf, isNone, fAddI, Bool.not_true, Bool.not_false, Bool.and_true, Bool.true_and, Bool.and_false, Bool.false_and, Bool.or_true, Bool.true_or, Bool.or_false, Bool.false_or, if_true, if_false, Bool.false_eq_true, ite_true, ite_false, reduceCtorEq, Tw.fEq_i, Tw.fNe_i, Tw.fIn_i, Tw.fIn_iC, Tw.fIn_iL, Tw.fNotIn_iC, Tw.fIn_P, Tw.fNotIn_P, Tw.fNotIn_C, Tw.fLt_C, Tw.fLt_i, Tw.fGt_i, Tw.fLe_i, Tw.fGe_i, Tw.atI_0, Tw.atI_1, Tw.atI_2, true_and, and_true, eq_self, g_wrong_town]
  exact h
abbrev s_need_town : Stmt := topS 9
theorem sc_need_town : FnScope ["value", "word"] ["value"] (defScope s_need_town) := ⟨rfl, rfl, rfl, by decide +kernel, rfl, by decide +kernel, by decide +kernel⟩
theorem ok_need_town {c : Addr} (F : FunC K mg "need_town" s_need_town c) (Tx : Txt mg) (c_wrong_town : Cal P w K mg base T 5 "wrong_town" ["value"] (g_wrong_town)) : Cal P w K mg base T 6 "need_town" ["value"] g_need_town := by
  have nd := sc_need_town.nd
  refine cal_of (P := P) (w := w) (K := K) (mg := mg) (base := base) (T := T) F sc_need_town (fun ds QD XD h => by unfold g_need_town at h; split at h <;> first | rfl | exact h.elim) _ (fun _ _ _ _ _ _ us hl => match us, hl with | [_], _ => rfl) (fun f A outer s H E XD B => (psd_cons (psd_set (i := 1) nd rfl (by first | exact .inl rfl | exact .inr rfl) (pd_callC c_wrong_town (B.room.mono (by first | decide | exact Nat.le_refl _)) B.pass (pad_cons (pd_var (pv 0)) pad_nil)))
    (psd_one (psd_if (ptd_cmp op_isNotD (pd_var (pv 1)) pd_non (by rfl)) (psd_one psd_never)
    psd_nil)))) ?_
  intro ds QD XD h
  unfold g_need_town at h
  split at h
  case h_2 => exact h.elim

  rename_i v
  obtain ⟨h1, h2⟩ := h
  simp only [v_var, v_c, v_g2, v_gN, v_op, v_B, v_chain, v_and, v_or, v_not, v_andV, v_orV, v_notV, v_if, v_nil, v_cons, v_tup, v_lst, v_call, v_fn, v_next, v_seq, v_break, v_contS, v_drop, v_ret, v_retN, v_retOwn, v_retOwnN, v_ifS, v_never, v_asg, v_gname, v_gnil, v_gcons, v_gtup, v_is1, v_is2, v_tru, v_noPart, v_part, v_cut, v_dnew, v_fdnew, v_flst, v_flstRg, v_span, v_rg1, v_rg2, v_frep, v_fdict, v_asgF, v_append, v_extend, v_popAt, v_pop, v_augIx, v_for, v_while, v_any, v_range1, v_range2, v_zip, v_enumT, v_enum, v_vals, v_items, v_yes, v_lc, v_lcOwn, v_lc2, v_all, v_dc, v_dcOwn, v_par, v_parF, v_par3F, v_par3L, v_inN, v_dget, v_dput, v_daug, v_rel, opt_some, opt_none, opt_ite, opt_map, isD_d, isB_b, isI_i, isL_l, isT'_t, isDict_d, isDV_d, dat1_d, dat2_d, vget_d, vget_row, vget_own, vget_oN, ownL_o, ownN_o, look_nil, look_zero, look_succ, cont_d, cont_vw, rd_d', rd_own', dd_d', dd_oN', startD, List.map_cons, List.map_nil, List.length_cons, List.length_nil, List.replicate, List.cons_append, List.nil_append, List.append_nil, List.set_cons_zero, List.set_cons_succ, List.set_nil, hide, wipeD, noOwn, datas, conts, rds, Nat.reduceAdd, Nat.reduceSub, List.all_cons, List.all_nil, DV.isOwn, fAdd, fInt, fSub, fFDiv, fMod, fMul, fIs, fIsNot, fIx, fCut, isT, cLen, cTuple, cList, cSum, cMax, cMin, cInt, cStr, truD, seqD, zipOf, isNone, fAddI, Bool.not_true, Bool.not_false, Bool.and_true, Bool.true_and, Bool.and_false, Bool.false_and, Bool.or_true, Bool.true_or, Bool.or_false, Bool.false_or, if_true, if_false, Bool.false_eq_true, ite_true, ite_false, reduceCtorEq, Tw.fEq_i, Tw.fNe_i, Tw.fIn_i, Tw.fIn_iC, Tw.fIn_iL, Tw.fNotIn_iC, Tw.fIn_P, Tw.fNotIn_P, Tw.fNotIn_C, Tw.fLt_C, Tw.fLt_i, Tw.fGt_i, Tw.fLe_i, Tw.fGe_i, Tw.atI_0, Tw.atI_1, Tw.atI_2, true_and, and_true, eq_self, g_wrong_town, h1]
  exact h2
end
end K4
namespace K4
open PySem PySem.Spec L2 DL Tw
def g_all_pairs : Gf := fun ds QD _ => match ds with
  | [.d (.int n)] => 0 ≤ n ∧ n ≤ 31 ∧ QD (.list ((pairsN n).map encP))
  | _ => False
def g_pairs_in : Gf := fun ds QD _ => match ds with
  | [.d v] => ∃ c : List Int, v = encC c ∧ c.length ≤ 1000 ∧ QD (.list ((pairsC c).map encP))
  | _ => False
def g_counts_of : Gf := fun ds QD _ => match ds with
  | [.d v] => ∃ n cs, v = encT n cs ∧ TownS n cs ∧ QD (.dict (cntP n (cs.flatMap pairsC)))
  | _ => False
def g_missing_of : Gf := fun ds QD _ => match ds with
  | [.d v] => ∃ n cs, v = encT n cs ∧ TownS n cs ∧ QD (.list (((pairsN n).filter fun p => decide ((cs.flatMap pairsC).count p = 0)).map encP))
  | _ => False
def g_missing : Gf := fun ds QD _ => match ds with
  | [.d v] => ∃ n cs, v = encT n cs ∧ TownS n cs ∧ QD (.tuple (((pairsN n).filter fun p => decide ((cs.flatMap pairsC).count p = 0)).map encP))
  | _ => False
def g_doubled_of : Gf := fun ds QD _ => match ds with
  | [.d v] => ∃ n cs, v = encT n cs ∧ TownS n cs ∧ QD (.list (((pairsN n).filter fun p => decide (1 < (cs.flatMap pairsC).count p)).map encP))
  | _ => False
def g_doubled : Gf := fun ds QD _ => match ds with
  | [.d v] => ∃ n cs, v = encT n cs ∧ TownS n cs ∧ QD (.tuple (((pairsN n).filter fun p => decide (1 < (cs.flatMap pairsC).count p)).map encP))
  | _ => False
def g_is_pair_town_of : Gf := fun ds QD _ => match ds with
  | [.d v] => ∃ n cs, v = encT n cs ∧ TownS n cs ∧ QD (.bool ((pairsN n).all fun p => decide ((cs.flatMap pairsC).count p = 1)))
  | _ => False
def g_is_pair_town : Gf := fun ds QD _ => match ds with
  | [.d v] => ∃ n cs, v = encT n cs ∧ TownS n cs ∧ QD (.bool ((pairsN n).all fun p => decide ((cs.flatMap pairsC).count p = 1)))
  | _ => False
theorem items_cntP (n : Int) (L : List (Int × Int)) : (cntP n L).map (fun p => pairD p.1 p.2) = (pairsN n).map fun p => pairD (encP p) (.int (L.count p : Int)) := by
  simp only [cntP, dP, List.map_map]; rfl
theorem vals_cntP (n : Int) (L : List (Int × Int)) : (cntP n L).map (·.2) = (pairsN n).map fun p => .int (L.count p : Int) := by
  simp only [cntP, dP, List.map_map]; rfl
theorem keys_cntP (n : Int) (L : List (Int × Int)) : (cntP n L).map (·.1) = (pairsN n).map encP := by
  simp only [cntP, dP, List.map_map]; rfl
theorem two_size : 2 ≤ sizeLine := by decide
def kZero (x : PyData) : Option (NK × PyData) := (tkOf x).map fun k => (k, .int 0)
theorem fold_zero : ∀ (ps l : List (Int × Int)), (l ++ ps).Nodup → (ps.map encP).foldl (fun D x => putO D (kZero x)) (dP l fun _ => .int 0) = dP (l ++ ps) fun _ => .int 0
  | [], l, _ => by simp
  | p :: ps, l, h => by
    have hp : p ∉ l := fun hm => by
      rw [List.nodup_append] at h
      exact h.2.2 p hm p List.mem_cons_self rfl
    have h' : (l ++ [p] ++ ps).Nodup := by simpa using h
    have := fold_zero ps (l ++ [p]) h'
    rw [List.map_cons, List.foldl_cons]
    simp only [kZero, tkOf_P, Option.map_some, putO] at this ⊢
    rw [dput_P_new hp rfl, this]
    simp
theorem cntP_nil (n : Int) : ((pairsN n).map encP).foldl (fun D x => putO D (kZero x)) [] = cntP n [] := by
  have := fold_zero (pairsN n) [] (by simpa using pairsN_nodup n)
  simpa [cntP, dP] using this
theorem club_pairs {n : Int} {c : List Int} (h : ClubV n c) {p : Int × Int} (hp : p ∈ pairsC c) : p ∈ pairsN n := by
  have := (mem_pairsC h.asc).mp hp
  have h1 := h.ran _ this.1
  have h2 := h.ran _ this.2.1
  exact mem_pairsN.mpr ⟨h1.1, this.2.2, h2.2⟩
theorem dec_cnt0 (k : Nat) : decide ((k : Int) = 0) = decide (k = 0) := by congr 1; apply propext; omega
theorem dec_cnt1 (k : Nat) : decide ((k : Int) = 1) = decide (k = 1) := by congr 1; apply propext; omega
theorem dec_cnt2 (k : Nat) : decide (1 < (k : Int)) = decide (1 < k) := by congr 1; apply propext; omega
section
variable {P : Program} {w : World} {K : PySem.W.Frag} {mg : Str → Option Value} {base : Heap} {T : List Addr}
end
end K4
namespace K4
open PySem PySem.Spec L2 DL Tw
abbrev g__law_taken : Gf := g_taken
section
variable {P : Program} {w : World} {K : PySem.W.Frag} {mg : Str → Option Value} {base : Heap} {T : List Addr}
abbrev s__law_taken : Stmt := topS 16
theorem sc__law_taken : FnScope ["row", "many", "found", "cell"] ["row", "many"] (defScope s__law_taken) := ⟨rfl, rfl, rfl, by decide +kernel, rfl, by decide +kernel, by decide +kernel⟩
theorem ok__law_taken {c : Addr} (F : FunC K mg "_law_taken" s__law_taken c) (Tx : Txt mg) : Cal P w K mg base T 1 "_law_taken" ["row", "many"] g__law_taken := by
  have nd := sc__law_taken.nd
  refine cal_ofL (P := P) (w := w) (K := K) (mg := mg) (base := base) (T := T) F sc__law_taken (fun ds QD XD h => by unfold g__law_taken g_taken at h; split at h <;> first | rfl | exact h.elim) (tTaken K) (fun _ _ _ _ _ _ us hl => match us, hl with | [_, _], _ => rfl) (fun f A outer s H E XD B => ?_) ?_
  · exact pss_cons (ps_if (pt_cmpR op_gt (pe_ix ix_list (pv 0) pe_int fun _ _ => rfl) pe_int rfl)
        (pss_cons (ps_set nd rfl (.inl rfl) (pe_op op_mod (pe_callTy call_int1 (by rfl) Tx.int bt_int (pa_cons (pe_ix ix_list (pv 0) pe_int fun _ _ => rfl) pa_nil)) (pv 1)))
          (pss_cons (ps_asg (pe_op op_fdiv (pe_ix ix_list (pv 0) pe_int fun _ _ => rfl) (pv 1)) (pg_sub (pv 0) pe_int set_list)) (pss_one (ps_ret (pv 2))))) pss_nil)
      (pss_cons (ps_asg (pe_op op_add (pe_ix ix_list (pv 0) pe_int fun _ _ => rfl) pe_int) (pg_sub (pv 0) pe_int set_list))
      (pss_cons (ps_if (pt_cmpR op_gt (pe_ix ix_list (pv 0) pe_int fun _ _ => rfl) (pe_callB call_len (by rfl) Tx.len bt_len (pa_cons (pe_ix ix_list (pv 0) pe_int fun _ _ => rfl) pa_nil)) rfl)
        (pss_cons (ps_asg (pe_op op_mod (pe_callTy call_int1 (by rfl) Tx.int bt_int (pa_cons (pe_op op_add (pe_op op_mul (pe_ix ix_list (pv 0) pe_int fun _ _ => rfl) pe_int) pe_int) pa_nil)) pe_int) (pg_sub (pv 0) pe_int set_list))
          (pss_one (ps_ret (pe_op op_mod (pe_callTy call_int1 (by rfl) Tx.int bt_int (pa_cons (pe_op op_fdiv (pe_ix ix_list (pv 0) pe_int fun _ _ => rfl) pe_int) pa_nil)) (pv 1))))) pss_nil)
      (pss_cons (ps_set nd rfl (.inl rfl) (pe_ix ix_list (pe_ix ix_list (pv 0) pe_int fun _ _ => rfl) (pe_op op_sub (pe_ix ix_list (pv 0) pe_int fun _ _ => rfl) pe_int) fun _ _ => rfl))
      (pss_cons (ps_asg (pe_op op_mod (pe_callTy call_int1 (by rfl) Tx.int bt_int (pa_cons (pe_op op_add (pe_op op_add (pe_op op_mul (pe_ix ix_list (pv 0) pe_int fun _ _ => rfl) pe_int) (pv 3)) pe_int) pa_nil)) pe_int) (pg_sub (pv 0) pe_int set_list))
      (pss_cons (ps_if (pt_cmpR op_ge (pv 3) (pe_op op_pow pe_int pe_int) rfl) (pss_one (ps_asg (pe_op op_fdiv (pv 3) (pv 1)) (pg_sub (pv 0) pe_int set_list))) pss_nil)
      (pss_one (ps_ret (pe_op op_mod (pe_callTy call_int1 (by rfl) Tx.int bt_int (pa_cons (pv 3) pa_nil)) (pv 1)))))))))
  · intro R H M vs ds QD XD Q hg W hv hQ
    exact taken_mean R H M vs ds QD XD Q hg W hv hQ _
end
end K4
namespace K4
open PySem PySem.Spec L2 DL Tw
/-- what a law's comparison reads -/
def Alk : Nat → PyData → Prop
  | 0, _ => False
  | n + 1, d => match d with
    | .tuple l => l.length ≤ sizeLine ∧ ∀ x ∈ l, Alk n x
    | .list l => l.length ≤ sizeLine ∧ ∀ x ∈ l, Alk n x
    | .dict _ => False
    | .str s => PyData.strOk s = true
    | _ => True
def g__law_alike (n : Nat) : Gf := fun ds QD _ => match ds with
  | [.d x, .d y] => x = y ∧ Alk n x ∧ QD (.bool true)
  | _ => False
def g__law_pick : Gf := fun ds QD _ => match ds with
  | [.row, .d (.list l)] => l ≠ [] ∧ l.length ≤ sizeLine ∧ ∀ x ∈ l, QD x
  | _ => False
def g__law_turn : Gf := fun ds QD _ => match ds with
  | [.row, .d (.int n)] => 0 ≤ n ∧ n ≤ 31 ∧ ∀ l : List Int, l.Perm (ir 0 n) → QD (encC l)
  | _ => False
def g__law_pairs : Gf := fun ds QD _ => match ds with
  | [.d (.int n)] => 0 ≤ n ∧ n ≤ 31 ∧ QD (.list ((pairsN n).map encP))
  | _ => False
def subs : Nat → List (List Int)
  | 0 => [[]]
  | k + 1 => subs k ++ (subs k).map (· ++ [(k : Int)])
def clubsN (n : Int) : List (List Int) := (subs n.toNat).filter fun c => decide (1 < (c.length : Int)) && decide ((c.length : Int) < n)
def g__law_clubs : Gf := fun ds QD _ => match ds with
  | [.d (.int n)] => 0 ≤ n ∧ n ≤ 12 ∧ QD (.list ((clubsN n).map encC))
  | _ => False
def g__law_within : Gf := fun ds QD _ => match ds with
  | [.d v] => ∃ c : List Int, v = encC c ∧ c.length ≤ 1000 ∧ QD (.list ((pairsC c).map encP))
  | _ => False
def g__law_counts : Gf := fun ds QD _ => match ds with
  | [.d v] => ∃ n cs, v = encT n cs ∧ TownS n cs ∧ QD (.dict (cntP n (cs.flatMap pairsC)))
  | _ => False
theorem eqv_nil : ∀ l : List PyData, PyData.eqv (.list l) (.list []) = decide (l = []) := by
  intro l
  cases l <;> simp [PyData.eqv, PyData.eqvAll]
theorem fNe_nil {l : List PyData} {k : Nat} (h : ∀ x ∈ l, Sh k x) (hk : k < 64) : fNe (.list l) (.list []) = some (.bool (!decide (l = []))) := by
  unfold fNe
  rw [(Sh.list h).shaped hk, (Sh.list (k := 0) (l := []) (fun x h => by cases h)).shaped, eqv_nil]
  rfl
theorem fEq_nil {l : List PyData} {k : Nat} (h : ∀ x ∈ l, Sh k x) (hk : k < 64) : fEq (.list l) (.list []) = some (.bool (decide (l = []))) := by
  unfold fEq
  rw [(Sh.list h).shaped hk, (Sh.list (k := 0) (l := []) (fun x h => by cases h)).shaped, eqv_nil]
  rfl
theorem sh_ints {l : List Int} : ∀ x ∈ l.map PyData.int, Sh 0 x := fun x hx => by
  obtain ⟨i, _, rfl⟩ := List.mem_map.mp hx
  exact Sh.int 0 i
theorem atI_mem {l : List PyData} {k : Int} (h0 : 0 ≤ k) (h1 : k < l.length) : ∃ x, atI l k = some x ∧ x ∈ l := by
  have hk : k.toNat < l.length := by omega
  refine ⟨l[k.toNat], ?_, List.getElem_mem hk⟩
  unfold atI
  rw [ixN_get h0 h1]
  simp [hk]
theorem perm_pull {α : Type} : ∀ (l : List α) (j : Nat) (x : α), l[j]? = some x → (x :: l.eraseIdx j).Perm l
  | [], j, x, h => by simp at h
  | a :: l, 0, x, h => by simp at h; subst h; exact .refl _
  | a :: l, j + 1, x, h => by
    simp only [List.getElem?_cons_succ] at h
    rw [List.eraseIdx_cons_succ]
    exact (List.Perm.swap a x _).trans ((perm_pull l j x h).cons a)
theorem eraseIdx_map {α β : Type} (f : α → β) : ∀ (l : List α) (j : Nat), (l.map f).eraseIdx j = (l.eraseIdx j).map f
  | [], j => by simp
  | a :: l, 0 => by simp
  | a :: l, j + 1 => by simp only [List.map_cons, List.eraseIdx_cons_succ, eraseIdx_map f l j]
theorem subs_len : ∀ k, (subs k).length = 2 ^ k
  | 0 => rfl
  | k + 1 => by rw [subs, List.length_append, List.length_map, subs_len k, Nat.pow_succ]; omega
theorem subs_mem_len : ∀ k, ∀ c ∈ subs k, c.length ≤ k
  | 0, c, h => by simp [subs] at h; subst h; simp
  | k + 1, c, h => by
    rw [subs, List.mem_append] at h
    rcases h with h | h
    · exact Nat.le_succ_of_le (subs_mem_len k c h)
    · obtain ⟨d, hd, rfl⟩ := List.mem_map.mp h
      have := subs_mem_len k d hd
      simp; omega
def withF (c : List Int) (a : Int) : List (Int × Int) := (c.drop (a.toNat + 1)).map fun y => (c.getD a.toNat 0, y)
theorem with_pairs (c : List Int) : (ir 0 (c.length : Int)).flatMap (withF c) = pairsC c := by
  rw [← pairsC_idx c 0]
  have e : c.zipIdx 0 = (ir 0 (c.length : Int)).map fun a => (c.getD a.toNat 0, a.toNat) := by
    apply List.ext_getElem
    · simp [ir_length]
    · intro i h1 h2
      have h3 : i < c.length := by simpa using h1
      simp [ir, h3]
  rw [e, List.flatMap_map]
  rfl
theorem pairsOf_zero : ∀ ps : List (Int × Int), pairsOf (ps.map fun p => PyData.tuple [encP p, .int 0]) = some (ps.map fun p => (encP p, .int 0))
  | [] => rfl
  | p :: ps => by
    rw [List.map_cons, pairsOf, pairsOf_zero ps]
    simp [pairOf, tkOf_P]
theorem dputs_zero (n : Int) : dputs [] ((pairsN n).map fun p => (encP p, .int 0)) = cntP n [] := by
  rw [← cntP_nil, dputs, List.foldl_map, List.foldl_map]
  simp only [kZero, tkOf_P, Option.map_some, putO]
theorem ir_snoc (k : Nat) : ir 0 ((k : Int) + 1) = ir 0 k ++ [(k : Int)] := by
  unfold ir
  rw [show ((k : Int) + 1 - 0).toNat = k + 1 by omega, show ((k : Int) - 0).toNat = k by omega, List.range_succ, List.map_append]
  simp
section
variable {P : Program} {w : World} {K : PySem.W.Frag} {mg : Str → Option Value} {base : Heap} {T : List Addr}
abbrev s__law_pick : Stmt := topS 17
theorem sc__law_pick : FnScope ["row", "things"] ["row", "things"] (defScope s__law_pick) := ⟨rfl, rfl, rfl, by decide +kernel, rfl, by decide +kernel, by decide +kernel⟩
theorem ok__law_pick {c : Addr} (F : FunC K mg "_law_pick" s__law_pick c) (Tx : Txt mg) (c__law_taken : Cal P w K mg base T 1 "_law_taken" ["row", "many"] (g__law_taken)) : Cal P w K mg base T 2 "_law_pick" ["row", "things"] g__law_pick := by
  have nd := sc__law_pick.nd
  refine cal_of (P := P) (w := w) (K := K) (mg := mg) (base := base) (T := T) F sc__law_pick (fun ds QD XD h => by unfold g__law_pick at h; split at h <;> first | rfl | exact h.elim) _ (fun _ _ _ _ _ _ us hl => match us, hl with | [_, _], _ => rfl) (fun f A outer s H E XD B => (psd_one (psd_ret (pd_ix ix_D (pd_var (pv 1)) (pd_callC c__law_taken (B.room.mono (by first | decide | exact Nat.le_refl _)) B.pass (pad_cons (pd_var (pv 0)) (pad_cons (pd_callB (call_lenD) (by rfl) Tx.len bt_len (pad_cons (pd_var (pv 1)) pad_nil)) pad_nil))) (fun _ _ => rfl))))) ?_
  intro ds QD XD h
  unfold g__law_pick at h
  split at h
  case h_2 => exact h.elim

  rename_i l
  obtain ⟨h1, h2, h3⟩ := h
  simp only [v_var, v_c, v_g2, v_gN, v_op, v_B, v_chain, v_and, v_or, v_not, v_andV, v_orV, v_notV, v_if, v_nil, v_cons, v_tup, v_lst, v_call, v_fn, v_next, v_seq, v_break, v_contS, v_drop, v_ret, v_retN, v_retOwn, v_retOwnN, v_ifS, v_never, v_asg, v_gname, v_gnil, v_gcons, v_gtup, v_is1, v_is2, v_tru, v_noPart, v_part, v_cut, v_dnew, v_fdnew, v_flst, v_flstRg, v_span, v_rg1, v_rg2, v_frep, v_fdict, v_asgF, v_append, v_extend, v_popAt, v_pop, v_augIx, v_for, v_while, v_any, v_range1, v_range2, v_zip, v_enumT, v_enum, v_vals, v_items, v_yes, v_lc, v_lcOwn, v_lc2, v_all, v_dc, v_dcOwn, v_par, v_parF, v_par3F, v_par3L, v_inN, v_dget, v_dput, v_daug, v_rel, opt_some, opt_none, opt_ite, opt_map, isD_d, isB_b, isI_i, isL_l, isT'_t, isDict_d, isDV_d, dat1_d, dat2_d, vget_d, vget_row, vget_own, vget_oN, ownL_o, ownN_o, look_nil, look_zero, look_succ, cont_d, cont_vw, rd_d', rd_own', dd_d', dd_oN', startD, List.map_cons, List.map_nil, List.length_cons, List.length_nil, List.replicate, List.cons_append, List.nil_append, List.append_nil, List.set_cons_zero, List.set_cons_succ, List.set_nil, hide, wipeD, noOwn, datas, conts, rds, Nat.reduceAdd, Nat.reduceSub, List.all_cons, List.all_nil, DV.isOwn, fAdd, fInt, fSub, fFDiv, fMod, fMul, fIs, fIsNot, fIx, fCut, isT, cLen, cTuple, cList, cSum, cMax, cMin, cInt, cStr, truD, seqD, zipOf, isNone, fAddI, Bool.not_true, Bool.not_false, Bool.and_true, Bool.true_and, Bool.and_false, Bool.false_and, Bool.or_true, Bool.true_or, Bool.or_false, Bool.false_or, if_true, if_false, Bool.false_eq_true, ite_true, ite_false, reduceCtorEq, Tw.fEq_i, Tw.fNe_i, Tw.fIn_i, Tw.fIn_iC, Tw.fIn_iL, Tw.fNotIn_iC, Tw.fIn_P, Tw.fNotIn_P, Tw.fNotIn_C, Tw.fLt_C, Tw.fLt_i, Tw.fGt_i, Tw.fLe_i, Tw.fGe_i, Tw.atI_0, Tw.atI_1, Tw.atI_2, true_and, and_true, eq_self, g__law_taken, g_taken]
  have hs := PySem.sizeLine_eq
  have := List.length_pos_iff.mpr h1
  refine ⟨by omega, by omega, fun k h0 hk => ?_⟩
  obtain ⟨x, e, hx⟩ := atI_mem h0 hk
  rw [e, opt_some]
  exact h3 x hx
abbrev s__law_turn : Stmt := topS 19
theorem sc__law_turn : FnScope ["row", "halls", "found", "left"] ["row", "halls"] (defScope s__law_turn) := ⟨rfl, rfl, rfl, by decide +kernel, rfl, by decide +kernel, by decide +kernel⟩
theorem ok__law_turn {c : Addr} (F : FunC K mg "_law_turn" s__law_turn c) (Tx : Txt mg) (c__law_taken : Cal P w K mg base T 1 "_law_taken" ["row", "many"] (g__law_taken)) : Cal P w K mg base T 2 "_law_turn" ["row", "halls"] g__law_turn := by
  have nd := sc__law_turn.nd
  refine cal_of (P := P) (w := w) (K := K) (mg := mg) (base := base) (T := T) F sc__law_turn (fun ds QD XD h => by unfold g__law_turn at h; split at h <;> first | rfl | exact h.elim) _ (fun _ _ _ _ _ _ us hl => match us, hl with | [_, _], _ => rfl) (fun f A outer s H E XD B => (psd_cons (psd_parF (i := 2) (j := 3) rfl nd rfl rfl (by decide) rfl rfl (pd_tup pad_nil) (pf_listRg rfl (by rfl) Tx.list (prgd_1 (by rfl) Tx.range (pd_var (pv 1)))) (by rfl))
    (psd_cons (psd_while B.own (ptd_cmp (op_neDD (B.room.u64)) (pd_var (pv 3)) (pd_lst pad_nil) (by rfl)) (psd_one (psd_set (i := 2) nd rfl (by first | exact .inl rfl | exact .inr rfl) (pd_op op_addD (pd_var (pv 2)) (pd_tup (pad_cons (pd_popAt (pv 3) (pd_callC c__law_taken (B.room.mono (by first | decide | exact Nat.le_refl _)) B.pass (pad_cons (pd_var (pv 0)) (pad_cons (pd_callB (call_lenD) (by rfl) Tx.len bt_len (pad_cons (pd_var (pv 3)) pad_nil)) pad_nil)))) pad_nil))))))
    (psd_one (psd_ret (pd_var (pv 2))))))) ?_
  intro ds QD XD h
  unfold g__law_turn at h
  split at h
  case h_2 => exact h.elim

  rename_i n
  obtain ⟨h1, h2, h3⟩ := h
  simp only [v_var, v_c, v_g2, v_gN, v_op, v_B, v_chain, v_and, v_or, v_not, v_andV, v_orV, v_notV, v_if, v_nil, v_cons, v_tup, v_lst, v_call, v_fn, v_next, v_seq, v_break, v_contS, v_drop, v_ret, v_retN, v_retOwn, v_retOwnN, v_ifS, v_never, v_asg, v_gname, v_gnil, v_gcons, v_gtup, v_is1, v_is2, v_tru, v_noPart, v_part, v_cut, v_dnew, v_fdnew, v_flst, v_flstRg, v_span, v_rg1, v_rg2, v_frep, v_fdict, v_asgF, v_append, v_extend, v_popAt, v_pop, v_augIx, v_for, v_while, v_any, v_range1, v_range2, v_zip, v_enumT, v_enum, v_vals, v_items, v_yes, v_lc, v_lcOwn, v_lc2, v_all, v_dc, v_dcOwn, v_par, v_parF, v_par3F, v_par3L, v_inN, v_dget, v_dput, v_daug, v_rel, opt_some, opt_none, opt_ite, opt_map, isD_d, isB_b, isI_i, isL_l, isT'_t, isDict_d, isDV_d, dat1_d, dat2_d, vget_d, vget_row, vget_own, vget_oN, ownL_o, ownN_o, look_nil, look_zero, look_succ, cont_d, cont_vw, rd_d', rd_own', dd_d', dd_oN', startD, List.map_cons, List.map_nil, List.length_cons, List.length_nil, List.replicate, List.cons_append, List.nil_append, List.append_nil, List.set_cons_zero, List.set_cons_succ, List.set_nil, hide, wipeD, noOwn, datas, conts, rds, Nat.reduceAdd, Nat.reduceSub, List.all_cons, List.all_nil, DV.isOwn, fAdd, fInt, fSub, fFDiv, fMod, fMul, fIs, fIsNot, fIx, fCut, isT, cLen, cTuple, cList, cSum, cMax, cMin, cInt, cStr, truD, seqD, zipOf, isNone, fAddI, Bool.not_true, Bool.not_false, Bool.and_true, Bool.true_and, Bool.and_false, Bool.false_and, Bool.or_true, Bool.true_or, Bool.or_false, Bool.false_or, if_true, if_false, Bool.false_eq_true, ite_true, ite_false, reduceCtorEq, Tw.fEq_i, Tw.fNe_i, Tw.fIn_i, Tw.fIn_iC, Tw.fIn_iL, Tw.fNotIn_iC, Tw.fIn_P, Tw.fNotIn_P, Tw.fNotIn_C, Tw.fLt_C, Tw.fLt_i, Tw.fGt_i, Tw.fLe_i, Tw.fGe_i, Tw.atI_0, Tw.atI_1, Tw.atI_2, true_and, and_true, eq_self, g__law_taken, g_taken]
  have hs := PySem.sizeLine_eq
  refine ⟨by omega, ⟨by omega, by omega, by omega, by omega, by omega⟩, ?_⟩
  rw [show (n - 0) = n by omega, rng0_ir]
  refine ⟨fun m δ => ∃ f left : List Int, (f ++ left).Perm (ir 0 n) ∧ m = left.length ∧ δ = [some .row, some (.d (.int n)), some (.d (encC f)), some (.own (left.map .int))], ⟨_, [], ir 0 n, .refl _, rfl, rfl⟩, ?_⟩
  rintro m δ ⟨f, left, hp, rfl, rfl⟩
  have hlen : f.length + left.length = n.toNat := by
    have := hp.length_eq
    rw [List.length_append, ir_length] at this
    omega
  have hne := fNe_nil (sh_ints (l := left)) (by decide)
  simp only [v_var, v_c, v_g2, v_gN, v_op, v_B, v_chain, v_and, v_or, v_not, v_andV, v_orV, v_notV, v_if, v_nil, v_cons, v_tup, v_lst, v_call, v_fn, v_next, v_seq, v_break, v_contS, v_drop, v_ret, v_retN, v_retOwn, v_retOwnN, v_ifS, v_never, v_asg, v_gname, v_gnil, v_gcons, v_gtup, v_is1, v_is2, v_tru, v_noPart, v_part, v_cut, v_dnew, v_fdnew, v_flst, v_flstRg, v_span, v_rg1, v_rg2, v_frep, v_fdict, v_asgF, v_append, v_extend, v_popAt, v_pop, v_augIx, v_for, v_while, v_any, v_range1, v_range2, v_zip, v_enumT, v_enum, v_vals, v_items, v_yes, v_lc, v_lcOwn, v_lc2, v_all, v_dc, v_dcOwn, v_par, v_parF, v_par3F, v_par3L, v_inN, v_dget, v_dput, v_daug, v_rel, opt_some, opt_none, opt_ite, opt_map, isD_d, isB_b, isI_i, isL_l, isT'_t, isDict_d, isDV_d, dat1_d, dat2_d, vget_d, vget_row, vget_own, vget_oN, ownL_o, ownN_o, look_nil, look_zero, look_succ, cont_d, cont_vw, rd_d', rd_own', dd_d', dd_oN', startD, List.map_cons, List.map_nil, List.length_cons, List.length_nil, List.replicate, List.cons_append, List.nil_append, List.append_nil, List.set_cons_zero, List.set_cons_succ, List.set_nil, hide, wipeD, noOwn, datas, conts, rds, Nat.reduceAdd, Nat.reduceSub, List.all_cons, List.all_nil, DV.isOwn, fAdd, fInt, fSub, fFDiv, fMod, fMul, fIs, fIsNot, fIx, fCut, isT, cLen, cTuple, cList, cSum, cMax, cMin, cInt, cStr, truD, seqD, zipOf, isNone, fAddI, Bool.not_true, Bool.not_false, Bool.and_true, Bool.true_and, Bool.and_false, Bool.false_and, Bool.or_true, Bool.true_or, Bool.or_false, Bool.false_or, if_true, if_false, Bool.false_eq_true, ite_true, ite_false, reduceCtorEq, Tw.fEq_i, Tw.fNe_i, Tw.fIn_i, Tw.fIn_iC, Tw.fIn_iL, Tw.fNotIn_iC, Tw.fIn_P, Tw.fNotIn_P, Tw.fNotIn_C, Tw.fLt_C, Tw.fLt_i, Tw.fGt_i, Tw.fLe_i, Tw.fGe_i, Tw.atI_0, Tw.atI_1, Tw.atI_2, true_and, and_true, eq_self, g__law_taken, g_taken, hne]
  refine ⟨by omega, ?_⟩
  by_cases hl : left = []
  · subst hl
    rw [if_neg (by simp)]
    exact h3 f (by simpa using hp)
  · have hl0 : 0 < left.length := List.length_pos_iff.mpr hl
    rw [if_pos (by simp [hl])]
    simp only [List.length_map]
    refine ⟨by omega, by omega, fun k h0 hk => ?_⟩
    have hj : k.toNat < left.length := by omega
    rw [ixN_get h0 (by omega), opt_some, List.getElem?_map, List.getElem?_eq_getElem hj, Option.map_some, opt_some]
    refine ⟨by omega, by omega, (left.eraseIdx k.toNat).length, by rw [List.length_eraseIdx_of_lt hj]; omega, f ++ [left[k.toNat]], left.eraseIdx k.toNat, ?_, rfl, by rw [eraseIdx_map]; simp [encC]⟩
    have := (perm_pull left k.toNat _ (List.getElem?_eq_getElem hj)).append_left f
    rw [List.append_assoc]
    exact this.trans hp
abbrev s__law_pairs : Stmt := topS 20
theorem sc__law_pairs : FnScope ["halls", "found", "one", "other"] ["halls"] (defScope s__law_pairs) := ⟨rfl, rfl, rfl, by decide +kernel, rfl, by decide +kernel, by decide +kernel⟩
theorem ok__law_pairs {c : Addr} (F : FunC K mg "_law_pairs" s__law_pairs c) (Tx : Txt mg)  : Cal P w K mg base T 2 "_law_pairs" ["halls"] g__law_pairs := by
  have nd := sc__law_pairs.nd
  refine cal_of (P := P) (w := w) (K := K) (mg := mg) (base := base) (T := T) F sc__law_pairs (fun ds QD XD h => by unfold g__law_pairs at h; split at h <;> first | rfl | exact h.elim) _ (fun _ _ _ _ _ _ us hl => match us, hl with | [_], _ => rfl) (fun f A outer s H E XD B => (psd_cons (psd_set (i := 1) nd rfl (by first | exact .inl rfl | exact .inr rfl) (pd_lst pad_nil))
    (psd_cons (psd_for (vs := [2]) B.own rfl (pid_range1 (by rfl) Tx.range (pad_cons (pd_var (pv 0)) pad_nil)) (pgd_name (pg_name (i := 2) nd rfl (by first | exact .inl rfl | exact .inr rfl)))
    (psd_one (psd_set (i := 1) nd rfl (by first | exact .inl rfl | exact .inr rfl) (pd_op op_addD (pd_var (pv 1)) (pd_lc (own := [("other", 3)]) rfl nd (pid_range2 (by rfl) Tx.range (pad_cons (pd_op op_addD (pd_var (pv 2)) pd_int) (pad_cons (pd_var (pv 0)) pad_nil))) (blkOk_by (by first | rfl | kernel_rfl)) (fun s H C cl fp => (pgd_name (pg_name (i := 3) nd rfl (by first | exact .inl rfl | exact .inr rfl)))) (fun s H C cl fp => ptsd_nil) (fun s H C cl fp => (pd_tup (pad_cons (pd_var (pv 2)) (pad_cons (pd_var (pv 3)) pad_nil)))))))))
    (psd_one (psd_ret (pd_var (pv 1))))))) ?_
  intro ds QD XD h
  unfold g__law_pairs at h
  split at h
  case h_2 => exact h.elim

  rename_i n
  obtain ⟨h1, h2, h3⟩ := h
  simp only [v_var, v_c, v_g2, v_gN, v_op, v_B, v_chain, v_and, v_or, v_not, v_andV, v_orV, v_notV, v_if, v_nil, v_cons, v_tup, v_lst, v_call, v_fn, v_next, v_seq, v_break, v_contS, v_drop, v_ret, v_retN, v_retOwn, v_retOwnN, v_ifS, v_never, v_asg, v_gname, v_gnil, v_gcons, v_gtup, v_is1, v_is2, v_tru, v_noPart, v_part, v_cut, v_dnew, v_fdnew, v_flst, v_flstRg, v_span, v_rg1, v_rg2, v_frep, v_fdict, v_asgF, v_append, v_extend, v_popAt, v_pop, v_augIx, v_for, v_while, v_any, v_range1, v_range2, v_zip, v_enumT, v_enum, v_vals, v_items, v_yes, v_lc, v_lcOwn, v_lc2, v_all, v_dc, v_dcOwn, v_par, v_parF, v_par3F, v_par3L, v_inN, v_dget, v_dput, v_daug, v_rel, opt_some, opt_none, opt_ite, opt_map, isD_d, isB_b, isI_i, isL_l, isT'_t, isDict_d, isDV_d, dat1_d, dat2_d, vget_d, vget_row, vget_own, vget_oN, ownL_o, ownN_o, look_nil, look_zero, look_succ, cont_d, cont_vw, rd_d', rd_own', dd_d', dd_oN', startD, List.map_cons, List.map_nil, List.length_cons, List.length_nil, List.replicate, List.cons_append, List.nil_append, List.append_nil, List.set_cons_zero, List.set_cons_succ, List.set_nil, hide, wipeD, noOwn, datas, conts, rds, Nat.reduceAdd, Nat.reduceSub, List.all_cons, List.all_nil, DV.isOwn, fAdd, fInt, fSub, fFDiv, fMod, fMul, fIs, fIsNot, fIx, fCut, isT, cLen, cTuple, cList, cSum, cMax, cMin, cInt, cStr, truD, seqD, zipOf, isNone, fAddI, Bool.not_true, Bool.not_false, Bool.and_true, Bool.true_and, Bool.and_false, Bool.false_and, Bool.or_true, Bool.true_or, Bool.or_false, Bool.false_or, if_true, if_false, Bool.false_eq_true, ite_true, ite_false, reduceCtorEq, Tw.fEq_i, Tw.fNe_i, Tw.fIn_i, Tw.fIn_iC, Tw.fIn_iL, Tw.fNotIn_iC, Tw.fIn_P, Tw.fNotIn_P, Tw.fNotIn_C, Tw.fLt_C, Tw.fLt_i, Tw.fGt_i, Tw.fLe_i, Tw.fGe_i, Tw.atI_0, Tw.atI_1, Tw.atI_2, true_and, and_true, eq_self]
  have hs := PySem.sizeLine_eq
  have hpl := pairsN_len n h2
  refine ⟨by omega, by omega, by omega, ?_⟩
  rw [rng0_ir]
  refine forD_fold .int (fun L δ => ∃ a b, δ = [some (.d (.int n)), some (.d (.list (L.map encP))), a, b]) (fun L a => L ++ (ir (a + 1) n).map fun b => (a, b)) [] ⟨none, none, rfl⟩ (fun k x δ R hk ⟨a, b, hδ⟩ hR => ?_) (fun δ ⟨a, b, hδ⟩ => ?_)
  · subst hδ
    have hx := mem_ir.mp (List.mem_of_getElem? hk)
    simp only [v_var, v_c, v_g2, v_gN, v_op, v_B, v_chain, v_and, v_or, v_not, v_andV, v_orV, v_notV, v_if, v_nil, v_cons, v_tup, v_lst, v_call, v_fn, v_next, v_seq, v_break, v_contS, v_drop, v_ret, v_retN, v_retOwn, v_retOwnN, v_ifS, v_never, v_asg, v_gname, v_gnil, v_gcons, v_gtup, v_is1, v_is2, v_tru, v_noPart, v_part, v_cut, v_dnew, v_fdnew, v_flst, v_flstRg, v_span, v_rg1, v_rg2, v_frep, v_fdict, v_asgF, v_append, v_extend, v_popAt, v_pop, v_augIx, v_for, v_while, v_any, v_range1, v_range2, v_zip, v_enumT, v_enum, v_vals, v_items, v_yes, v_lc, v_lcOwn, v_lc2, v_all, v_dc, v_dcOwn, v_par, v_parF, v_par3F, v_par3L, v_inN, v_dget, v_dput, v_daug, v_rel, opt_some, opt_none, opt_ite, opt_map, isD_d, isB_b, isI_i, isL_l, isT'_t, isDict_d, isDV_d, dat1_d, dat2_d, vget_d, vget_row, vget_own, vget_oN, ownL_o, ownN_o, look_nil, look_zero, look_succ, cont_d, cont_vw, rd_d', rd_own', dd_d', dd_oN', startD, List.map_cons, List.map_nil, List.length_cons, List.length_nil, List.replicate, List.cons_append, List.nil_append, List.append_nil, List.set_cons_zero, List.set_cons_succ, List.set_nil, hide, wipeD, noOwn, datas, conts, rds, Nat.reduceAdd, Nat.reduceSub, List.all_cons, List.all_nil, DV.isOwn, fAdd, fInt, fSub, fFDiv, fMod, fMul, fIs, fIsNot, fIx, fCut, isT, cLen, cTuple, cList, cSum, cMax, cMin, cInt, cStr, truD, seqD, zipOf, isNone, fAddI, Bool.not_true, Bool.not_false, Bool.and_true, Bool.true_and, Bool.and_false, Bool.false_and, Bool.or_true, Bool.true_or, Bool.or_false, Bool.false_or, if_true, if_false, Bool.false_eq_true, ite_true, ite_false, reduceCtorEq, Tw.fEq_i, Tw.fNe_i, Tw.fIn_i, Tw.fIn_iC, Tw.fIn_iL, Tw.fNotIn_iC, Tw.fIn_P, Tw.fNotIn_P, Tw.fNotIn_C, Tw.fLt_C, Tw.fLt_i, Tw.fGt_i, Tw.fLe_i, Tw.fGe_i, Tw.atI_0, Tw.atI_1, Tw.atI_2, true_and, and_true, eq_self]
    refine ⟨by omega, ?_⟩
    rw [rng_ir]
    refine lcD_map .int (fun b => encP (x, b)) (by rw [ir_length]; omega) (fun y hy R Z => ?_) ?_
    · simp only [v_var, v_c, v_g2, v_gN, v_op, v_B, v_chain, v_and, v_or, v_not, v_andV, v_orV, v_notV, v_if, v_nil, v_cons, v_tup, v_lst, v_call, v_fn, v_next, v_seq, v_break, v_contS, v_drop, v_ret, v_retN, v_retOwn, v_retOwnN, v_ifS, v_never, v_asg, v_gname, v_gnil, v_gcons, v_gtup, v_is1, v_is2, v_tru, v_noPart, v_part, v_cut, v_dnew, v_fdnew, v_flst, v_flstRg, v_span, v_rg1, v_rg2, v_frep, v_fdict, v_asgF, v_append, v_extend, v_popAt, v_pop, v_augIx, v_for, v_while, v_any, v_range1, v_range2, v_zip, v_enumT, v_enum, v_vals, v_items, v_yes, v_lc, v_lcOwn, v_lc2, v_all, v_dc, v_dcOwn, v_par, v_parF, v_par3F, v_par3L, v_inN, v_dget, v_dput, v_daug, v_rel, opt_some, opt_none, opt_ite, opt_map, isD_d, isB_b, isI_i, isL_l, isT'_t, isDict_d, isDV_d, dat1_d, dat2_d, vget_d, vget_row, vget_own, vget_oN, ownL_o, ownN_o, look_nil, look_zero, look_succ, cont_d, cont_vw, rd_d', rd_own', dd_d', dd_oN', startD, List.map_cons, List.map_nil, List.length_cons, List.length_nil, List.replicate, List.cons_append, List.nil_append, List.append_nil, List.set_cons_zero, List.set_cons_succ, List.set_nil, hide, wipeD, noOwn, datas, conts, rds, Nat.reduceAdd, Nat.reduceSub, List.all_cons, List.all_nil, DV.isOwn, fAdd, fInt, fSub, fFDiv, fMod, fMul, fIs, fIsNot, fIx, fCut, isT, cLen, cTuple, cList, cSum, cMax, cMin, cInt, cStr, truD, seqD, zipOf, isNone, fAddI, Bool.not_true, Bool.not_false, Bool.and_true, Bool.true_and, Bool.and_false, Bool.false_and, Bool.or_true, Bool.true_or, Bool.or_false, Bool.false_or, if_true, if_false, Bool.false_eq_true, ite_true, ite_false, reduceCtorEq, Tw.fEq_i, Tw.fNe_i, Tw.fIn_i, Tw.fIn_iC, Tw.fIn_iL, Tw.fNotIn_iC, Tw.fIn_P, Tw.fNotIn_P, Tw.fNotIn_C, Tw.fLt_C, Tw.fLt_i, Tw.fGt_i, Tw.fLe_i, Tw.fGe_i, Tw.atI_0, Tw.atI_1, Tw.atI_2, true_and, and_true, eq_self]
      exact ⟨two_size, Z⟩
    · refine ⟨?_, hR _ ⟨some (.d (.int x)), b, ?_⟩⟩
      · rw [foldl_app (fun a => (ir (a + 1) n).map fun b => (a, b)) _ [], List.nil_append, List.length_map, List.length_map, ir_length]
        have h1 := len_flatMap_le (fun a => (ir (a + 1) n).map fun b => (a, b)) 31 ((ir 0 n).take k) (fun y hy => by
          have := mem_ir.mp (List.mem_of_mem_take hy)
          rw [List.length_map, ir_length]; omega)
        have h2 : ((ir 0 n).take k).length ≤ 31 := by rw [List.length_take, ir_length]; omega
        omega
      · rw [foldl_step hk, List.map_append, List.map_map]; rfl
  · subst hδ
    have e1 := foldl_app (fun a => (ir (a + 1) n).map fun b => (a, b)) (ir 0 n) []
    simp only [v_var, v_c, v_g2, v_gN, v_op, v_B, v_chain, v_and, v_or, v_not, v_andV, v_orV, v_notV, v_if, v_nil, v_cons, v_tup, v_lst, v_call, v_fn, v_next, v_seq, v_break, v_contS, v_drop, v_ret, v_retN, v_retOwn, v_retOwnN, v_ifS, v_never, v_asg, v_gname, v_gnil, v_gcons, v_gtup, v_is1, v_is2, v_tru, v_noPart, v_part, v_cut, v_dnew, v_fdnew, v_flst, v_flstRg, v_span, v_rg1, v_rg2, v_frep, v_fdict, v_asgF, v_append, v_extend, v_popAt, v_pop, v_augIx, v_for, v_while, v_any, v_range1, v_range2, v_zip, v_enumT, v_enum, v_vals, v_items, v_yes, v_lc, v_lcOwn, v_lc2, v_all, v_dc, v_dcOwn, v_par, v_parF, v_par3F, v_par3L, v_inN, v_dget, v_dput, v_daug, v_rel, opt_some, opt_none, opt_ite, opt_map, isD_d, isB_b, isI_i, isL_l, isT'_t, isDict_d, isDV_d, dat1_d, dat2_d, vget_d, vget_row, vget_own, vget_oN, ownL_o, ownN_o, look_nil, look_zero, look_succ, cont_d, cont_vw, rd_d', rd_own', dd_d', dd_oN', startD, List.map_cons, List.map_nil, List.length_cons, List.length_nil, List.replicate, List.cons_append, List.nil_append, List.append_nil, List.set_cons_zero, List.set_cons_succ, List.set_nil, hide, wipeD, noOwn, datas, conts, rds, Nat.reduceAdd, Nat.reduceSub, List.all_cons, List.all_nil, DV.isOwn, fAdd, fInt, fSub, fFDiv, fMod, fMul, fIs, fIsNot, fIx, fCut, isT, cLen, cTuple, cList, cSum, cMax, cMin, cInt, cStr, truD, seqD, zipOf, isNone, fAddI, Bool.not_true, Bool.not_false, Bool.and_true, Bool.true_and, Bool.and_false, Bool.false_and, Bool.or_true, Bool.true_or, Bool.or_false, Bool.false_or, if_true, if_false, Bool.false_eq_true, ite_true, ite_false, reduceCtorEq, Tw.fEq_i, Tw.fNe_i, Tw.fIn_i, Tw.fIn_iC, Tw.fIn_iL, Tw.fNotIn_iC, Tw.fIn_P, Tw.fNotIn_P, Tw.fNotIn_C, Tw.fLt_C, Tw.fLt_i, Tw.fGt_i, Tw.fLe_i, Tw.fGe_i, Tw.atI_0, Tw.atI_1, Tw.atI_2, true_and, and_true, eq_self]
    rw [e1]
    exact h3
abbrev s__law_clubs : Stmt := topS 21
theorem sc__law_clubs : FnScope ["people", "found", "one", "club"] ["people"] (defScope s__law_clubs) := ⟨rfl, rfl, rfl, by decide +kernel, rfl, by decide +kernel, by decide +kernel⟩
theorem ok__law_clubs {c : Addr} (F : FunC K mg "_law_clubs" s__law_clubs c) (Tx : Txt mg)  : Cal P w K mg base T 2 "_law_clubs" ["people"] g__law_clubs := by
  have nd := sc__law_clubs.nd
  refine cal_of (P := P) (w := w) (K := K) (mg := mg) (base := base) (T := T) F sc__law_clubs (fun ds QD XD h => by unfold g__law_clubs at h; split at h <;> first | rfl | exact h.elim) _ (fun _ _ _ _ _ _ us hl => match us, hl with | [_], _ => rfl) (fun f A outer s H E XD B => (psd_cons (psd_set (i := 1) nd rfl (by first | exact .inl rfl | exact .inr rfl) (pd_lst (pad_cons (pd_tup pad_nil) pad_nil)))
    (psd_cons (psd_for (vs := [2]) B.own rfl (pid_range1 (by rfl) Tx.range (pad_cons (pd_var (pv 0)) pad_nil)) (pgd_name (pg_name (i := 2) nd rfl (by first | exact .inl rfl | exact .inr rfl)))
    (psd_one (psd_set (i := 1) nd rfl (by first | exact .inl rfl | exact .inr rfl) (pd_op op_addD (pd_var (pv 1)) (pd_lc (own := [("club", 3)]) rfl nd (pid_any (pd_var (pv 1))) (blkOk_by (by first | rfl | kernel_rfl)) (fun s H C cl fp => (pgd_name (pg_name (i := 3) nd rfl (by first | exact .inl rfl | exact .inr rfl)))) (fun s H C cl fp => ptsd_nil) (fun s H C cl fp => (pd_op op_addD (pd_var (pv 3)) (pd_tup (pad_cons (pd_var (pv 2)) pad_nil)))))))))
    (psd_one (psd_ret (pd_lc (own := [("club", 3)]) rfl nd (pid_any (pd_var (pv 1))) (blkOk_by (by first | rfl | kernel_rfl)) (fun s H C cl fp => (pgd_name (pg_name (i := 3) nd rfl (by first | exact .inl rfl | exact .inr rfl)))) (fun s H C cl fp => (ptsd_one (ptd_chain (op_ltD (B.room.u64)) (op_ltD (B.room.u64)) pd_int (pd_callB (call_lenD) (by rfl) Tx.len bt_len (pad_cons (pd_var (pv 3)) pad_nil)) (pd_var (pv 0))))) (fun s H C cl fp => (pd_var (pv 3))))))))) ?_
  intro ds QD XD h
  unfold g__law_clubs at h
  split at h
  case h_2 => exact h.elim

  rename_i n
  obtain ⟨h1, h2, h3⟩ := h
  simp only [v_var, v_c, v_g2, v_gN, v_op, v_B, v_chain, v_and, v_or, v_not, v_andV, v_orV, v_notV, v_if, v_nil, v_cons, v_tup, v_lst, v_call, v_fn, v_next, v_seq, v_break, v_contS, v_drop, v_ret, v_retN, v_retOwn, v_retOwnN, v_ifS, v_never, v_asg, v_gname, v_gnil, v_gcons, v_gtup, v_is1, v_is2, v_tru, v_noPart, v_part, v_cut, v_dnew, v_fdnew, v_flst, v_flstRg, v_span, v_rg1, v_rg2, v_frep, v_fdict, v_asgF, v_append, v_extend, v_popAt, v_pop, v_augIx, v_for, v_while, v_any, v_range1, v_range2, v_zip, v_enumT, v_enum, v_vals, v_items, v_yes, v_lc, v_lcOwn, v_lc2, v_all, v_dc, v_dcOwn, v_par, v_parF, v_par3F, v_par3L, v_inN, v_dget, v_dput, v_daug, v_rel, opt_some, opt_none, opt_ite, opt_map, isD_d, isB_b, isI_i, isL_l, isT'_t, isDict_d, isDV_d, dat1_d, dat2_d, vget_d, vget_row, vget_own, vget_oN, ownL_o, ownN_o, look_nil, look_zero, look_succ, cont_d, cont_vw, rd_d', rd_own', dd_d', dd_oN', startD, List.map_cons, List.map_nil, List.length_cons, List.length_nil, List.replicate, List.cons_append, List.nil_append, List.append_nil, List.set_cons_zero, List.set_cons_succ, List.set_nil, hide, wipeD, noOwn, datas, conts, rds, Nat.reduceAdd, Nat.reduceSub, List.all_cons, List.all_nil, DV.isOwn, fAdd, fInt, fSub, fFDiv, fMod, fMul, fIs, fIsNot, fIx, fCut, isT, cLen, cTuple, cList, cSum, cMax, cMin, cInt, cStr, truD, seqD, zipOf, isNone, fAddI, Bool.not_true, Bool.not_false, Bool.and_true, Bool.true_and, Bool.and_false, Bool.false_and, Bool.or_true, Bool.true_or, Bool.or_false, Bool.false_or, if_true, if_false, Bool.false_eq_true, ite_true, ite_false, reduceCtorEq, Tw.fEq_i, Tw.fNe_i, Tw.fIn_i, Tw.fIn_iC, Tw.fIn_iL, Tw.fNotIn_iC, Tw.fIn_P, Tw.fNotIn_P, Tw.fNotIn_C, Tw.fLt_C, Tw.fLt_i, Tw.fGt_i, Tw.fLe_i, Tw.fGe_i, Tw.atI_0, Tw.atI_1, Tw.atI_2, true_and, and_true, eq_self]
  have hs := PySem.sizeLine_eq
  have hpow : ∀ k : Nat, k ≤ 12 → 2 ^ k ≤ 4096 := fun k hk => Nat.le_trans (Nat.pow_le_pow_right (by decide) hk) (by decide)
  refine ⟨by omega, by omega, by omega, by omega, ?_⟩
  rw [rng0_ir]
  refine forD_ty .int (fun k δ => ∃ a b, δ = [some (.d (.int n)), some (.d (.list ((subs k).map encC))), a, b]) ⟨none, none, rfl⟩ (fun k x δ hk ⟨a, b, hδ⟩ => ?_) (fun δ ⟨a, b, hδ⟩ => ?_)
  · subst hδ
    have hkn : k < n.toNat := by
      have := (List.getElem?_eq_some_iff.mp hk).1
      rw [ir_length] at this; omega
    have hx : x = (k : Int) := by
      unfold ir at hk
      rw [List.getElem?_map, List.getElem?_range (by omega)] at hk
      simp at hk; omega
    subst hx
    have hsz := subs_len k
    have := hpow k (by omega)
    have := hpow (k + 1) (by omega)
    simp only [v_var, v_c, v_g2, v_gN, v_op, v_B, v_chain, v_and, v_or, v_not, v_andV, v_orV, v_notV, v_if, v_nil, v_cons, v_tup, v_lst, v_call, v_fn, v_next, v_seq, v_break, v_contS, v_drop, v_ret, v_retN, v_retOwn, v_retOwnN, v_ifS, v_never, v_asg, v_gname, v_gnil, v_gcons, v_gtup, v_is1, v_is2, v_tru, v_noPart, v_part, v_cut, v_dnew, v_fdnew, v_flst, v_flstRg, v_span, v_rg1, v_rg2, v_frep, v_fdict, v_asgF, v_append, v_extend, v_popAt, v_pop, v_augIx, v_for, v_while, v_any, v_range1, v_range2, v_zip, v_enumT, v_enum, v_vals, v_items, v_yes, v_lc, v_lcOwn, v_lc2, v_all, v_dc, v_dcOwn, v_par, v_parF, v_par3F, v_par3L, v_inN, v_dget, v_dput, v_daug, v_rel, opt_some, opt_none, opt_ite, opt_map, isD_d, isB_b, isI_i, isL_l, isT'_t, isDict_d, isDV_d, dat1_d, dat2_d, vget_d, vget_row, vget_own, vget_oN, ownL_o, ownN_o, look_nil, look_zero, look_succ, cont_d, cont_vw, rd_d', rd_own', dd_d', dd_oN', startD, List.map_cons, List.map_nil, List.length_cons, List.length_nil, List.replicate, List.cons_append, List.nil_append, List.append_nil, List.set_cons_zero, List.set_cons_succ, List.set_nil, hide, wipeD, noOwn, datas, conts, rds, Nat.reduceAdd, Nat.reduceSub, List.all_cons, List.all_nil, DV.isOwn, fAdd, fInt, fSub, fFDiv, fMod, fMul, fIs, fIsNot, fIx, fCut, isT, cLen, cTuple, cList, cSum, cMax, cMin, cInt, cStr, truD, seqD, zipOf, isNone, fAddI, Bool.not_true, Bool.not_false, Bool.and_true, Bool.true_and, Bool.and_false, Bool.false_and, Bool.or_true, Bool.true_or, Bool.or_false, Bool.false_or, if_true, if_false, Bool.false_eq_true, ite_true, ite_false, reduceCtorEq, Tw.fEq_i, Tw.fNe_i, Tw.fIn_i, Tw.fIn_iC, Tw.fIn_iL, Tw.fNotIn_iC, Tw.fIn_P, Tw.fNotIn_P, Tw.fNotIn_C, Tw.fLt_C, Tw.fLt_i, Tw.fGt_i, Tw.fLe_i, Tw.fGe_i, Tw.atI_0, Tw.atI_1, Tw.atI_2, true_and, and_true, eq_self]
    refine lcD_map encC (fun c => encC (c ++ [(k : Int)])) (by omega) (fun c hc R Z => ?_) ?_
    · simp only [v_var, v_c, v_g2, v_gN, v_op, v_B, v_chain, v_and, v_or, v_not, v_andV, v_orV, v_notV, v_if, v_nil, v_cons, v_tup, v_lst, v_call, v_fn, v_next, v_seq, v_break, v_contS, v_drop, v_ret, v_retN, v_retOwn, v_retOwnN, v_ifS, v_never, v_asg, v_gname, v_gnil, v_gcons, v_gtup, v_is1, v_is2, v_tru, v_noPart, v_part, v_cut, v_dnew, v_fdnew, v_flst, v_flstRg, v_span, v_rg1, v_rg2, v_frep, v_fdict, v_asgF, v_append, v_extend, v_popAt, v_pop, v_augIx, v_for, v_while, v_any, v_range1, v_range2, v_zip, v_enumT, v_enum, v_vals, v_items, v_yes, v_lc, v_lcOwn, v_lc2, v_all, v_dc, v_dcOwn, v_par, v_parF, v_par3F, v_par3L, v_inN, v_dget, v_dput, v_daug, v_rel, opt_some, opt_none, opt_ite, opt_map, isD_d, isB_b, isI_i, isL_l, isT'_t, isDict_d, isDV_d, dat1_d, dat2_d, vget_d, vget_row, vget_own, vget_oN, ownL_o, ownN_o, look_nil, look_zero, look_succ, cont_d, cont_vw, rd_d', rd_own', dd_d', dd_oN', startD, List.map_cons, List.map_nil, List.length_cons, List.length_nil, List.replicate, List.cons_append, List.nil_append, List.append_nil, List.set_cons_zero, List.set_cons_succ, List.set_nil, hide, wipeD, noOwn, datas, conts, rds, Nat.reduceAdd, Nat.reduceSub, List.all_cons, List.all_nil, DV.isOwn, fAdd, fInt, fSub, fFDiv, fMod, fMul, fIs, fIsNot, fIx, fCut, isT, cLen, cTuple, cList, cSum, cMax, cMin, cInt, cStr, truD, seqD, zipOf, isNone, fAddI, Bool.not_true, Bool.not_false, Bool.and_true, Bool.true_and, Bool.and_false, Bool.false_and, Bool.or_true, Bool.true_or, Bool.or_false, Bool.false_or, if_true, if_false, Bool.false_eq_true, ite_true, ite_false, reduceCtorEq, Tw.fEq_i, Tw.fNe_i, Tw.fIn_i, Tw.fIn_iC, Tw.fIn_iL, Tw.fNotIn_iC, Tw.fIn_P, Tw.fNotIn_P, Tw.fNotIn_C, Tw.fLt_C, Tw.fLt_i, Tw.fGt_i, Tw.fLe_i, Tw.fGe_i, Tw.atI_0, Tw.atI_1, Tw.atI_2, true_and, and_true, eq_self]
      have := subs_mem_len k c hc
      simp only [encC, List.map_append, List.map_cons, List.map_nil] at Z
      exact ⟨by omega, by rw [List.length_map]; omega, Z⟩
    · refine ⟨by rw [List.length_map, List.length_map]; omega, some (.d (.int k)), b, ?_⟩
      · rw [subs, List.map_append, List.map_map]; rfl
  · subst hδ
    rw [ir_length, show (n - 0).toNat = n.toNat by omega]
    have hsz := subs_len n.toNat
    have := hpow n.toNat (by omega)
    simp only [v_var, v_c, v_g2, v_gN, v_op, v_B, v_chain, v_and, v_or, v_not, v_andV, v_orV, v_notV, v_if, v_nil, v_cons, v_tup, v_lst, v_call, v_fn, v_next, v_seq, v_break, v_contS, v_drop, v_ret, v_retN, v_retOwn, v_retOwnN, v_ifS, v_never, v_asg, v_gname, v_gnil, v_gcons, v_gtup, v_is1, v_is2, v_tru, v_noPart, v_part, v_cut, v_dnew, v_fdnew, v_flst, v_flstRg, v_span, v_rg1, v_rg2, v_frep, v_fdict, v_asgF, v_append, v_extend, v_popAt, v_pop, v_augIx, v_for, v_while, v_any, v_range1, v_range2, v_zip, v_enumT, v_enum, v_vals, v_items, v_yes, v_lc, v_lcOwn, v_lc2, v_all, v_dc, v_dcOwn, v_par, v_parF, v_par3F, v_par3L, v_inN, v_dget, v_dput, v_daug, v_rel, opt_some, opt_none, opt_ite, opt_map, isD_d, isB_b, isI_i, isL_l, isT'_t, isDict_d, isDV_d, dat1_d, dat2_d, vget_d, vget_row, vget_own, vget_oN, ownL_o, ownN_o, look_nil, look_zero, look_succ, cont_d, cont_vw, rd_d', rd_own', dd_d', dd_oN', startD, List.map_cons, List.map_nil, List.length_cons, List.length_nil, List.replicate, List.cons_append, List.nil_append, List.append_nil, List.set_cons_zero, List.set_cons_succ, List.set_nil, hide, wipeD, noOwn, datas, conts, rds, Nat.reduceAdd, Nat.reduceSub, List.all_cons, List.all_nil, DV.isOwn, fAdd, fInt, fSub, fFDiv, fMod, fMul, fIs, fIsNot, fIx, fCut, isT, cLen, cTuple, cList, cSum, cMax, cMin, cInt, cStr, truD, seqD, zipOf, isNone, fAddI, Bool.not_true, Bool.not_false, Bool.and_true, Bool.true_and, Bool.and_false, Bool.false_and, Bool.or_true, Bool.true_or, Bool.or_false, Bool.false_or, if_true, if_false, Bool.false_eq_true, ite_true, ite_false, reduceCtorEq, Tw.fEq_i, Tw.fNe_i, Tw.fIn_i, Tw.fIn_iC, Tw.fIn_iL, Tw.fNotIn_iC, Tw.fIn_P, Tw.fNotIn_P, Tw.fNotIn_C, Tw.fLt_C, Tw.fLt_i, Tw.fGt_i, Tw.fLe_i, Tw.fGe_i, Tw.atI_0, Tw.atI_1, Tw.atI_2, true_and, and_true, eq_self]
    refine lcD_filter encC (fun c => decide (1 < (c.length : Int)) && decide ((c.length : Int) < n)) (by omega) (fun c hc R Z => ?_) h3
    simp only [v_var, v_c, v_g2, v_gN, v_op, v_B, v_chain, v_and, v_or, v_not, v_andV, v_orV, v_notV, v_if, v_nil, v_cons, v_tup, v_lst, v_call, v_fn, v_next, v_seq, v_break, v_contS, v_drop, v_ret, v_retN, v_retOwn, v_retOwnN, v_ifS, v_never, v_asg, v_gname, v_gnil, v_gcons, v_gtup, v_is1, v_is2, v_tru, v_noPart, v_part, v_cut, v_dnew, v_fdnew, v_flst, v_flstRg, v_span, v_rg1, v_rg2, v_frep, v_fdict, v_asgF, v_append, v_extend, v_popAt, v_pop, v_augIx, v_for, v_while, v_any, v_range1, v_range2, v_zip, v_enumT, v_enum, v_vals, v_items, v_yes, v_lc, v_lcOwn, v_lc2, v_all, v_dc, v_dcOwn, v_par, v_parF, v_par3F, v_par3L, v_inN, v_dget, v_dput, v_daug, v_rel, opt_some, opt_none, opt_ite, opt_map, isD_d, isB_b, isI_i, isL_l, isT'_t, isDict_d, isDV_d, dat1_d, dat2_d, vget_d, vget_row, vget_own, vget_oN, ownL_o, ownN_o, look_nil, look_zero, look_succ, cont_d, cont_vw, rd_d', rd_own', dd_d', dd_oN', startD, List.map_cons, List.map_nil, List.length_cons, List.length_nil, List.replicate, List.cons_append, List.nil_append, List.append_nil, List.set_cons_zero, List.set_cons_succ, List.set_nil, hide, wipeD, noOwn, datas, conts, rds, Nat.reduceAdd, Nat.reduceSub, List.all_cons, List.all_nil, DV.isOwn, fAdd, fInt, fSub, fFDiv, fMod, fMul, fIs, fIsNot, fIx, fCut, isT, cLen, cTuple, cList, cSum, cMax, cMin, cInt, cStr, truD, seqD, zipOf, isNone, fAddI, Bool.not_true, Bool.not_false, Bool.and_true, Bool.true_and, Bool.and_false, Bool.false_and, Bool.or_true, Bool.true_or, Bool.or_false, Bool.false_or, if_true, if_false, Bool.false_eq_true, ite_true, ite_false, reduceCtorEq, Tw.fEq_i, Tw.fNe_i, Tw.fIn_i, Tw.fIn_iC, Tw.fIn_iL, Tw.fNotIn_iC, Tw.fIn_P, Tw.fNotIn_P, Tw.fNotIn_C, Tw.fLt_C, Tw.fLt_i, Tw.fGt_i, Tw.fLe_i, Tw.fGe_i, Tw.atI_0, Tw.atI_1, Tw.atI_2, true_and, and_true, eq_self, List.length_map]
    cases h5 : decide (1 < (c.length : Int)) <;> cases h6 : decide ((c.length : Int) < n) <;> rw [h5, h6] at Z <;> simpa using Z
abbrev s__law_within : Stmt := topS 22
theorem sc__law_within : FnScope ["club", "found", "at", "other"] ["club"] (defScope s__law_within) := ⟨rfl, rfl, rfl, by decide +kernel, rfl, by decide +kernel, by decide +kernel⟩
theorem ok__law_within {c : Addr} (F : FunC K mg "_law_within" s__law_within c) (Tx : Txt mg)  : Cal P w K mg base T 2 "_law_within" ["club"] g__law_within := by
  have nd := sc__law_within.nd
  refine cal_of (P := P) (w := w) (K := K) (mg := mg) (base := base) (T := T) F sc__law_within (fun ds QD XD h => by unfold g__law_within at h; split at h <;> first | rfl | exact h.elim) _ (fun _ _ _ _ _ _ us hl => match us, hl with | [_], _ => rfl) (fun f A outer s H E XD B => (psd_cons (psd_set (i := 1) nd rfl (by first | exact .inl rfl | exact .inr rfl) (pd_lst pad_nil))
    (psd_cons (psd_for (vs := [2]) B.own rfl (pid_range1 (by rfl) Tx.range (pad_cons (pd_callB (call_lenD) (by rfl) Tx.len bt_len (pad_cons (pd_var (pv 0)) pad_nil)) pad_nil)) (pgd_name (pg_name (i := 2) nd rfl (by first | exact .inl rfl | exact .inr rfl)))
    (psd_one (psd_set (i := 1) nd rfl (by first | exact .inl rfl | exact .inr rfl) (pd_op op_addD (pd_var (pv 1)) (pd_lc (own := [("other", 3)]) rfl nd (pid_any (pd_slice (pd_var (pv 0)) (pod_some (pd_op op_addD (pd_var (pv 2)) pd_int)) pod_none)) (blkOk_by (by first | rfl | kernel_rfl)) (fun s H C cl fp => (pgd_name (pg_name (i := 3) nd rfl (by first | exact .inl rfl | exact .inr rfl)))) (fun s H C cl fp => ptsd_nil) (fun s H C cl fp => (pd_tup (pad_cons (pd_ix ix_D (pd_var (pv 0)) (pd_var (pv 2)) (fun _ _ => rfl)) (pad_cons (pd_var (pv 3)) pad_nil)))))))))
    (psd_one (psd_ret (pd_var (pv 1))))))) ?_
  intro ds QD XD h
  unfold g__law_within at h
  split at h
  case h_2 => exact h.elim

  rename_i v
  obtain ⟨c, rfl, h1, h2⟩ := h
  simp only [v_var, v_c, v_g2, v_gN, v_op, v_B, v_chain, v_and, v_or, v_not, v_andV, v_orV, v_notV, v_if, v_nil, v_cons, v_tup, v_lst, v_call, v_fn, v_next, v_seq, v_break, v_contS, v_drop, v_ret, v_retN, v_retOwn, v_retOwnN, v_ifS, v_never, v_asg, v_gname, v_gnil, v_gcons, v_gtup, v_is1, v_is2, v_tru, v_noPart, v_part, v_cut, v_dnew, v_fdnew, v_flst, v_flstRg, v_span, v_rg1, v_rg2, v_frep, v_fdict, v_asgF, v_append, v_extend, v_popAt, v_pop, v_augIx, v_for, v_while, v_any, v_range1, v_range2, v_zip, v_enumT, v_enum, v_vals, v_items, v_yes, v_lc, v_lcOwn, v_lc2, v_all, v_dc, v_dcOwn, v_par, v_parF, v_par3F, v_par3L, v_inN, v_dget, v_dput, v_daug, v_rel, opt_some, opt_none, opt_ite, opt_map, isD_d, isB_b, isI_i, isL_l, isT'_t, isDict_d, isDV_d, dat1_d, dat2_d, vget_d, vget_row, vget_own, vget_oN, ownL_o, ownN_o, look_nil, look_zero, look_succ, cont_d, cont_vw, rd_d', rd_own', dd_d', dd_oN', startD, List.map_cons, List.map_nil, List.length_cons, List.length_nil, List.replicate, List.cons_append, List.nil_append, List.append_nil, List.set_cons_zero, List.set_cons_succ, List.set_nil, hide, wipeD, noOwn, datas, conts, rds, Nat.reduceAdd, Nat.reduceSub, List.all_cons, List.all_nil, DV.isOwn, fAdd, fInt, fSub, fFDiv, fMod, fMul, fIs, fIsNot, fIx, fCut, isT, cLen, cTuple, cList, cSum, cMax, cMin, cInt, cStr, truD, seqD, zipOf, isNone, fAddI, Bool.not_true, Bool.not_false, Bool.and_true, Bool.true_and, Bool.and_false, Bool.false_and, Bool.or_true, Bool.true_or, Bool.or_false, Bool.false_or, if_true, if_false, Bool.false_eq_true, ite_true, ite_false, reduceCtorEq, Tw.fEq_i, Tw.fNe_i, Tw.fIn_i, Tw.fIn_iC, Tw.fIn_iL, Tw.fNotIn_iC, Tw.fIn_P, Tw.fNotIn_P, Tw.fNotIn_C, Tw.fLt_C, Tw.fLt_i, Tw.fGt_i, Tw.fLe_i, Tw.fGe_i, Tw.atI_0, Tw.atI_1, Tw.atI_2, true_and, and_true, eq_self, List.length_map]
  have hs := PySem.sizeLine_eq
  refine ⟨by omega, by omega, by omega, ?_⟩
  rw [rng0_ir]
  refine forD_fold .int (fun L δ => ∃ a b, δ = [some (.d (encC c)), some (.d (.list (L.map encP))), a, b]) (fun L a => L ++ withF c a) [] ⟨none, none, rfl⟩ (fun k x δ R hk ⟨a, b, hδ⟩ hR => ?_) (fun δ ⟨a, b, hδ⟩ => ?_)
  · subst hδ
    have hx := mem_ir.mp (List.mem_of_getElem? hk)
    have hx2 : x.toNat < c.length := by omega
    have hat : atI (c.map PyData.int) x = some (.int (c.getD x.toNat 0)) := by
      rw [atI_map]
      unfold atI
      rw [ixN_get hx.1 (by omega), List.getD_eq_getElem?_getD]
      simp [hx2]
    simp only [v_var, v_c, v_g2, v_gN, v_op, v_B, v_chain, v_and, v_or, v_not, v_andV, v_orV, v_notV, v_if, v_nil, v_cons, v_tup, v_lst, v_call, v_fn, v_next, v_seq, v_break, v_contS, v_drop, v_ret, v_retN, v_retOwn, v_retOwnN, v_ifS, v_never, v_asg, v_gname, v_gnil, v_gcons, v_gtup, v_is1, v_is2, v_tru, v_noPart, v_part, v_cut, v_dnew, v_fdnew, v_flst, v_flstRg, v_span, v_rg1, v_rg2, v_frep, v_fdict, v_asgF, v_append, v_extend, v_popAt, v_pop, v_augIx, v_for, v_while, v_any, v_range1, v_range2, v_zip, v_enumT, v_enum, v_vals, v_items, v_yes, v_lc, v_lcOwn, v_lc2, v_all, v_dc, v_dcOwn, v_par, v_parF, v_par3F, v_par3L, v_inN, v_dget, v_dput, v_daug, v_rel, opt_some, opt_none, opt_ite, opt_map, isD_d, isB_b, isI_i, isL_l, isT'_t, isDict_d, isDV_d, dat1_d, dat2_d, vget_d, vget_row, vget_own, vget_oN, ownL_o, ownN_o, look_nil, look_zero, look_succ, cont_d, cont_vw, rd_d', rd_own', dd_d', dd_oN', startD, List.map_cons, List.map_nil, List.length_cons, List.length_nil, List.replicate, List.cons_append, List.nil_append, List.append_nil, List.set_cons_zero, List.set_cons_succ, List.set_nil, hide, wipeD, noOwn, datas, conts, rds, Nat.reduceAdd, Nat.reduceSub, List.all_cons, List.all_nil, DV.isOwn, fAdd, fInt, fSub, fFDiv, fMod, fMul, fIs, fIsNot, fIx, fCut, isT, cLen, cTuple, cList, cSum, cMax, cMin, cInt, cStr, truD, seqD, zipOf, isNone, fAddI, Bool.not_true, Bool.not_false, Bool.and_true, Bool.true_and, Bool.and_false, Bool.false_and, Bool.or_true, Bool.true_or, Bool.or_false, Bool.false_or, if_true, if_false, Bool.false_eq_true, ite_true, ite_false, reduceCtorEq, Tw.fEq_i, Tw.fNe_i, Tw.fIn_i, Tw.fIn_iC, Tw.fIn_iL, Tw.fNotIn_iC, Tw.fIn_P, Tw.fNotIn_P, Tw.fNotIn_C, Tw.fLt_C, Tw.fLt_i, Tw.fGt_i, Tw.fLe_i, Tw.fGe_i, Tw.atI_0, Tw.atI_1, Tw.atI_2, true_and, and_true, eq_self]
    rw [cut_fromI _ _ (by omega), show (x + 1).toNat = x.toNat + 1 by omega, ← List.map_drop]
    refine lcD_map .int (fun y => encP (c.getD x.toNat 0, y)) (by rw [List.length_drop]; omega) (fun y hy R Z => ?_) ?_
    · simp only [v_var, v_c, v_g2, v_gN, v_op, v_B, v_chain, v_and, v_or, v_not, v_andV, v_orV, v_notV, v_if, v_nil, v_cons, v_tup, v_lst, v_call, v_fn, v_next, v_seq, v_break, v_contS, v_drop, v_ret, v_retN, v_retOwn, v_retOwnN, v_ifS, v_never, v_asg, v_gname, v_gnil, v_gcons, v_gtup, v_is1, v_is2, v_tru, v_noPart, v_part, v_cut, v_dnew, v_fdnew, v_flst, v_flstRg, v_span, v_rg1, v_rg2, v_frep, v_fdict, v_asgF, v_append, v_extend, v_popAt, v_pop, v_augIx, v_for, v_while, v_any, v_range1, v_range2, v_zip, v_enumT, v_enum, v_vals, v_items, v_yes, v_lc, v_lcOwn, v_lc2, v_all, v_dc, v_dcOwn, v_par, v_parF, v_par3F, v_par3L, v_inN, v_dget, v_dput, v_daug, v_rel, opt_some, opt_none, opt_ite, opt_map, isD_d, isB_b, isI_i, isL_l, isT'_t, isDict_d, isDV_d, dat1_d, dat2_d, vget_d, vget_row, vget_own, vget_oN, ownL_o, ownN_o, look_nil, look_zero, look_succ, cont_d, cont_vw, rd_d', rd_own', dd_d', dd_oN', startD, List.map_cons, List.map_nil, List.length_cons, List.length_nil, List.replicate, List.cons_append, List.nil_append, List.append_nil, List.set_cons_zero, List.set_cons_succ, List.set_nil, hide, wipeD, noOwn, datas, conts, rds, Nat.reduceAdd, Nat.reduceSub, List.all_cons, List.all_nil, DV.isOwn, fAdd, fInt, fSub, fFDiv, fMod, fMul, fIs, fIsNot, fIx, fCut, isT, cLen, cTuple, cList, cSum, cMax, cMin, cInt, cStr, truD, seqD, zipOf, isNone, fAddI, Bool.not_true, Bool.not_false, Bool.and_true, Bool.true_and, Bool.and_false, Bool.false_and, Bool.or_true, Bool.true_or, Bool.or_false, Bool.false_or, if_true, if_false, Bool.false_eq_true, ite_true, ite_false, reduceCtorEq, Tw.fEq_i, Tw.fNe_i, Tw.fIn_i, Tw.fIn_iC, Tw.fIn_iL, Tw.fNotIn_iC, Tw.fIn_P, Tw.fNotIn_P, Tw.fNotIn_C, Tw.fLt_C, Tw.fLt_i, Tw.fGt_i, Tw.fLe_i, Tw.fGe_i, Tw.atI_0, Tw.atI_1, Tw.atI_2, true_and, and_true, eq_self, hat]
      exact ⟨two_size, Z⟩
    · refine ⟨?_, hR _ ⟨some (.d (.int x)), b, ?_⟩⟩
      · rw [foldl_app (withF c) _ [], List.nil_append, List.length_map, List.length_map, List.length_drop]
        have h3 := len_flatMap_le (withF c) 1000 ((ir 0 (c.length : Int)).take k) (fun y hy => by
          rw [withF, List.length_map, List.length_drop]; omega)
        have h4 : ((ir 0 (c.length : Int)).take k).length ≤ 1000 := by rw [List.length_take, ir_length]; omega
        have h5 : ((ir 0 (c.length : Int)).take k).length * 1000 ≤ 1000 * 1000 := Nat.mul_le_mul_right _ h4
        omega
      · rw [foldl_step hk, List.map_append, withF, List.map_map]; rfl
  · subst hδ
    have e1 := foldl_app (withF c) (ir 0 (c.length : Int)) []
    simp only [v_var, v_c, v_g2, v_gN, v_op, v_B, v_chain, v_and, v_or, v_not, v_andV, v_orV, v_notV, v_if, v_nil, v_cons, v_tup, v_lst, v_call, v_fn, v_next, v_seq, v_break, v_contS, v_drop, v_ret, v_retN, v_retOwn, v_retOwnN, v_ifS, v_never, v_asg, v_gname, v_gnil, v_gcons, v_gtup, v_is1, v_is2, v_tru, v_noPart, v_part, v_cut, v_dnew, v_fdnew, v_flst, v_flstRg, v_span, v_rg1, v_rg2, v_frep, v_fdict, v_asgF, v_append, v_extend, v_popAt, v_pop, v_augIx, v_for, v_while, v_any, v_range1, v_range2, v_zip, v_enumT, v_enum, v_vals, v_items, v_yes, v_lc, v_lcOwn, v_lc2, v_all, v_dc, v_dcOwn, v_par, v_parF, v_par3F, v_par3L, v_inN, v_dget, v_dput, v_daug, v_rel, opt_some, opt_none, opt_ite, opt_map, isD_d, isB_b, isI_i, isL_l, isT'_t, isDict_d, isDV_d, dat1_d, dat2_d, vget_d, vget_row, vget_own, vget_oN, ownL_o, ownN_o, look_nil, look_zero, look_succ, cont_d, cont_vw, rd_d', rd_own', dd_d', dd_oN', startD, List.map_cons, List.map_nil, List.length_cons, List.length_nil, List.replicate, List.cons_append, List.nil_append, List.append_nil, List.set_cons_zero, List.set_cons_succ, List.set_nil, hide, wipeD, noOwn, datas, conts, rds, Nat.reduceAdd, Nat.reduceSub, List.all_cons, List.all_nil, DV.isOwn, fAdd, fInt, fSub, fFDiv, fMod, fMul, fIs, fIsNot, fIx, fCut, isT, cLen, cTuple, cList, cSum, cMax, cMin, cInt, cStr, truD, seqD, zipOf, isNone, fAddI, Bool.not_true, Bool.not_false, Bool.and_true, Bool.true_and, Bool.and_false, Bool.false_and, Bool.or_true, Bool.true_or, Bool.or_false, Bool.false_or, if_true, if_false, Bool.false_eq_true, ite_true, ite_false, reduceCtorEq, Tw.fEq_i, Tw.fNe_i, Tw.fIn_i, Tw.fIn_iC, Tw.fIn_iL, Tw.fNotIn_iC, Tw.fIn_P, Tw.fNotIn_P, Tw.fNotIn_C, Tw.fLt_C, Tw.fLt_i, Tw.fGt_i, Tw.fLe_i, Tw.fGe_i, Tw.atI_0, Tw.atI_1, Tw.atI_2, true_and, and_true, eq_self]
    rw [e1, List.nil_append, with_pairs]
    exact h2
abbrev s__law_counts : Stmt := topS 23
theorem sc__law_counts : FnScope ["town", "found", "pair", "club"] ["town"] (defScope s__law_counts) := ⟨rfl, rfl, rfl, by decide +kernel, rfl, by decide +kernel, by decide +kernel⟩
theorem ok__law_counts {c : Addr} (F : FunC K mg "_law_counts" s__law_counts c) (Tx : Txt mg) (c__law_pairs : Cal P w K mg base T 2 "_law_pairs" ["halls"] (g__law_pairs)) (c__law_within : Cal P w K mg base T 2 "_law_within" ["club"] (g__law_within)) : Cal P w K mg base T 3 "_law_counts" ["town"] g__law_counts := by
  have nd := sc__law_counts.nd
  refine cal_of (P := P) (w := w) (K := K) (mg := mg) (base := base) (T := T) F sc__law_counts (fun ds QD XD h => by unfold g__law_counts at h; split at h <;> first | rfl | exact h.elim) _ (fun _ _ _ _ _ _ us hl => match us, hl with | [_], _ => rfl) (fun f A outer s H E XD B => (psd_cons (psd_setF (i := 1) nd rfl (by first | exact .inl rfl | exact .inr rfl) (pf_dict (B.room.u64) rfl (by rfl) Tx.dict (pd_lc (own := [("pair", 2)]) rfl nd (pid_any (pd_callC c__law_pairs (B.room.mono (by first | decide | exact Nat.le_refl _)) B.pass (pad_cons (pd_ix ix_D (pd_var (pv 0)) pd_int (fun _ _ => rfl)) pad_nil))) (blkOk_by (by first | rfl | kernel_rfl)) (fun s H C cl fp => (pgd_name (pg_name (i := 2) nd rfl (by first | exact .inl rfl | exact .inr rfl)))) (fun s H C cl fp => ptsd_nil) (fun s H C cl fp => (pd_tup (pad_cons (pd_var (pv 2)) (pad_cons pd_int pad_nil)))))))
    (psd_cons (psd_for (vs := [3]) B.own rfl (pid_any (pd_ix ix_D (pd_var (pv 0)) pd_int (fun _ _ => rfl))) (pgd_name (pg_name (i := 3) nd rfl (by first | exact .inl rfl | exact .inr rfl)))
    (psd_one (psd_for (vs := [2]) B.own rfl (pid_any (pd_callC c__law_within (B.room.mono (by first | decide | exact Nat.le_refl _)) B.pass (pad_cons (pd_var (pv 3)) pad_nil))) (pgd_name (pg_name (i := 2) nd rfl (by first | exact .inl rfl | exact .inr rfl)))
    (psd_one (psd_dput (B.room.u64) (pv 1) (pd_var (pv 2)) (pd_op op_addD (pd_dget (B.room.u64) (pd_var (pv 1)) (pd_var (pv 2)) (hs := by intro _ _; rfl)) pd_int))))))
    (psd_one (psd_retOwnN (pv 1)))))) ?_
  intro ds QD XD h
  unfold g__law_counts at h
  split at h
  case h_2 => exact h.elim

  rename_i v
  obtain ⟨n, cs, rfl, h1, h2⟩ := h
  simp only [v_var, v_c, v_g2, v_gN, v_op, v_B, v_chain, v_and, v_or, v_not, v_andV, v_orV, v_notV, v_if, v_nil, v_cons, v_tup, v_lst, v_call, v_fn, v_next, v_seq, v_break, v_contS, v_drop, v_ret, v_retN, v_retOwn, v_retOwnN, v_ifS, v_never, v_asg, v_gname, v_gnil, v_gcons, v_gtup, v_is1, v_is2, v_tru, v_noPart, v_part, v_cut, v_dnew, v_fdnew, v_flst, v_flstRg, v_span, v_rg1, v_rg2, v_frep, v_fdict, v_asgF, v_append, v_extend, v_popAt, v_pop, v_augIx, v_for, v_while, v_any, v_range1, v_range2, v_zip, v_enumT, v_enum, v_vals, v_items, v_yes, v_lc, v_lcOwn, v_lc2, v_all, v_dc, v_dcOwn, v_par, v_parF, v_par3F, v_par3L, v_inN, v_dget, v_dput, v_daug, v_rel, opt_some, opt_none, opt_ite, opt_map, isD_d, isB_b, isI_i, isL_l, isT'_t, isDict_d, isDV_d, dat1_d, dat2_d, vget_d, vget_row, vget_own, vget_oN, ownL_o, ownN_o, look_nil, look_zero, look_succ, cont_d, cont_vw, rd_d', rd_own', dd_d', dd_oN', startD, List.map_cons, List.map_nil, List.length_cons, List.length_nil, List.replicate, List.cons_append, List.nil_append, List.append_nil, List.set_cons_zero, List.set_cons_succ, List.set_nil, hide, wipeD, noOwn, datas, conts, rds, Nat.reduceAdd, Nat.reduceSub, List.all_cons, List.all_nil, DV.isOwn, fAdd, fInt, fSub, fFDiv, fMod, fMul, fIs, fIsNot, fIx, fCut, isT, cLen, cTuple, cList, cSum, cMax, cMin, cInt, cStr, truD, seqD, zipOf, isNone, fAddI, Bool.not_true, Bool.not_false, Bool.and_true, Bool.true_and, Bool.and_false, Bool.false_and, Bool.or_true, Bool.true_or, Bool.or_false, Bool.false_or, if_true, if_false, Bool.false_eq_true, ite_true, ite_false, reduceCtorEq, Tw.fEq_i, Tw.fNe_i, Tw.fIn_i, Tw.fIn_iC, Tw.fIn_iL, Tw.fNotIn_iC, Tw.fIn_P, Tw.fNotIn_P, Tw.fNotIn_C, Tw.fLt_C, Tw.fLt_i, Tw.fGt_i, Tw.fLe_i, Tw.fGe_i, Tw.atI_0, Tw.atI_1, Tw.atI_2, true_and, and_true, eq_self, g__law_pairs]
  have hs := PySem.sizeLine_eq
  have hlo := h1.lo
  have hhi := h1.hi
  have hpl := pairsN_len n hhi
  refine ⟨by omega, hhi, ?_⟩
  refine lcD_map encP (fun p => .tuple [encP p, .int 0]) (by omega) (fun p hp R Z => ?_) ?_
  · simp only [v_var, v_c, v_g2, v_gN, v_op, v_B, v_chain, v_and, v_or, v_not, v_andV, v_orV, v_notV, v_if, v_nil, v_cons, v_tup, v_lst, v_call, v_fn, v_next, v_seq, v_break, v_contS, v_drop, v_ret, v_retN, v_retOwn, v_retOwnN, v_ifS, v_never, v_asg, v_gname, v_gnil, v_gcons, v_gtup, v_is1, v_is2, v_tru, v_noPart, v_part, v_cut, v_dnew, v_fdnew, v_flst, v_flstRg, v_span, v_rg1, v_rg2, v_frep, v_fdict, v_asgF, v_append, v_extend, v_popAt, v_pop, v_augIx, v_for, v_while, v_any, v_range1, v_range2, v_zip, v_enumT, v_enum, v_vals, v_items, v_yes, v_lc, v_lcOwn, v_lc2, v_all, v_dc, v_dcOwn, v_par, v_parF, v_par3F, v_par3L, v_inN, v_dget, v_dput, v_daug, v_rel, opt_some, opt_none, opt_ite, opt_map, isD_d, isB_b, isI_i, isL_l, isT'_t, isDict_d, isDV_d, dat1_d, dat2_d, vget_d, vget_row, vget_own, vget_oN, ownL_o, ownN_o, look_nil, look_zero, look_succ, cont_d, cont_vw, rd_d', rd_own', dd_d', dd_oN', startD, List.map_cons, List.map_nil, List.length_cons, List.length_nil, List.replicate, List.cons_append, List.nil_append, List.append_nil, List.set_cons_zero, List.set_cons_succ, List.set_nil, hide, wipeD, noOwn, datas, conts, rds, Nat.reduceAdd, Nat.reduceSub, List.all_cons, List.all_nil, DV.isOwn, fAdd, fInt, fSub, fFDiv, fMod, fMul, fIs, fIsNot, fIx, fCut, isT, cLen, cTuple, cList, cSum, cMax, cMin, cInt, cStr, truD, seqD, zipOf, isNone, fAddI, Bool.not_true, Bool.not_false, Bool.and_true, Bool.true_and, Bool.and_false, Bool.false_and, Bool.or_true, Bool.true_or, Bool.or_false, Bool.false_or, if_true, if_false, Bool.false_eq_true, ite_true, ite_false, reduceCtorEq, Tw.fEq_i, Tw.fNe_i, Tw.fIn_i, Tw.fIn_iC, Tw.fIn_iL, Tw.fNotIn_iC, Tw.fIn_P, Tw.fNotIn_P, Tw.fNotIn_C, Tw.fLt_C, Tw.fLt_i, Tw.fGt_i, Tw.fLe_i, Tw.fGe_i, Tw.atI_0, Tw.atI_1, Tw.atI_2, true_and, and_true, eq_self]
    exact ⟨two_size, Z⟩
  rw [pairsOf_zero, opt_some, dputs_zero]
  refine forD_fold encC (fun L δ => ∃ a b, δ = [some (.d (encT n cs)), some (.oN (cntP n L)), a, b]) (fun L c => L ++ pairsC c) [] ⟨none, none, rfl⟩ (fun k c δ R hk ⟨a, b, hδ⟩ hR => ?_) (fun δ ⟨a, b, hδ⟩ => ?_)
  · subst hδ
    have hc := h1.clubs c (List.mem_of_getElem? hk)
    simp only [v_var, v_c, v_g2, v_gN, v_op, v_B, v_chain, v_and, v_or, v_not, v_andV, v_orV, v_notV, v_if, v_nil, v_cons, v_tup, v_lst, v_call, v_fn, v_next, v_seq, v_break, v_contS, v_drop, v_ret, v_retN, v_retOwn, v_retOwnN, v_ifS, v_never, v_asg, v_gname, v_gnil, v_gcons, v_gtup, v_is1, v_is2, v_tru, v_noPart, v_part, v_cut, v_dnew, v_fdnew, v_flst, v_flstRg, v_span, v_rg1, v_rg2, v_frep, v_fdict, v_asgF, v_append, v_extend, v_popAt, v_pop, v_augIx, v_for, v_while, v_any, v_range1, v_range2, v_zip, v_enumT, v_enum, v_vals, v_items, v_yes, v_lc, v_lcOwn, v_lc2, v_all, v_dc, v_dcOwn, v_par, v_parF, v_par3F, v_par3L, v_inN, v_dget, v_dput, v_daug, v_rel, opt_some, opt_none, opt_ite, opt_map, isD_d, isB_b, isI_i, isL_l, isT'_t, isDict_d, isDV_d, dat1_d, dat2_d, vget_d, vget_row, vget_own, vget_oN, ownL_o, ownN_o, look_nil, look_zero, look_succ, cont_d, cont_vw, rd_d', rd_own', dd_d', dd_oN', startD, List.map_cons, List.map_nil, List.length_cons, List.length_nil, List.replicate, List.cons_append, List.nil_append, List.append_nil, List.set_cons_zero, List.set_cons_succ, List.set_nil, hide, wipeD, noOwn, datas, conts, rds, Nat.reduceAdd, Nat.reduceSub, List.all_cons, List.all_nil, DV.isOwn, fAdd, fInt, fSub, fFDiv, fMod, fMul, fIs, fIsNot, fIx, fCut, isT, cLen, cTuple, cList, cSum, cMax, cMin, cInt, cStr, truD, seqD, zipOf, isNone, fAddI, Bool.not_true, Bool.not_false, Bool.and_true, Bool.true_and, Bool.and_false, Bool.false_and, Bool.or_true, Bool.true_or, Bool.or_false, Bool.false_or, if_true, if_false, Bool.false_eq_true, ite_true, ite_false, reduceCtorEq, Tw.fEq_i, Tw.fNe_i, Tw.fIn_i, Tw.fIn_iC, Tw.fIn_iL, Tw.fNotIn_iC, Tw.fIn_P, Tw.fNotIn_P, Tw.fNotIn_C, Tw.fLt_C, Tw.fLt_i, Tw.fGt_i, Tw.fLe_i, Tw.fGe_i, Tw.atI_0, Tw.atI_1, Tw.atI_2, true_and, and_true, eq_self, g__law_within]
    refine ⟨c, rfl, by have := hc.less; omega, ?_⟩
    refine forD_fold encP (fun L δ => ∃ b, δ = [some (.d (encT n cs)), some (.oN (cntP n L)), b, some (.d (encC c))]) (fun L x => L ++ [x]) _ ⟨a, rfl⟩ (fun j x δ R2 hx ⟨b, hδ⟩ hR2 => ?_) (fun δ ⟨b, hδ⟩ => ?_)
    · subst hδ
      have hx' := club_pairs hc (List.mem_of_getElem? hx)
      simp only [v_var, v_c, v_g2, v_gN, v_op, v_B, v_chain, v_and, v_or, v_not, v_andV, v_orV, v_notV, v_if, v_nil, v_cons, v_tup, v_lst, v_call, v_fn, v_next, v_seq, v_break, v_contS, v_drop, v_ret, v_retN, v_retOwn, v_retOwnN, v_ifS, v_never, v_asg, v_gname, v_gnil, v_gcons, v_gtup, v_is1, v_is2, v_tru, v_noPart, v_part, v_cut, v_dnew, v_fdnew, v_flst, v_flstRg, v_span, v_rg1, v_rg2, v_frep, v_fdict, v_asgF, v_append, v_extend, v_popAt, v_pop, v_augIx, v_for, v_while, v_any, v_range1, v_range2, v_zip, v_enumT, v_enum, v_vals, v_items, v_yes, v_lc, v_lcOwn, v_lc2, v_all, v_dc, v_dcOwn, v_par, v_parF, v_par3F, v_par3L, v_inN, v_dget, v_dput, v_daug, v_rel, opt_some, opt_none, opt_ite, opt_map, isD_d, isB_b, isI_i, isL_l, isT'_t, isDict_d, isDV_d, dat1_d, dat2_d, vget_d, vget_row, vget_own, vget_oN, ownL_o, ownN_o, look_nil, look_zero, look_succ, cont_d, cont_vw, rd_d', rd_own', dd_d', dd_oN', startD, List.map_cons, List.map_nil, List.length_cons, List.length_nil, List.replicate, List.cons_append, List.nil_append, List.append_nil, List.set_cons_zero, List.set_cons_succ, List.set_nil, hide, wipeD, noOwn, datas, conts, rds, Nat.reduceAdd, Nat.reduceSub, List.all_cons, List.all_nil, DV.isOwn, fAdd, fInt, fSub, fFDiv, fMod, fMul, fIs, fIsNot, fIx, fCut, isT, cLen, cTuple, cList, cSum, cMax, cMin, cInt, cStr, truD, seqD, zipOf, isNone, fAddI, Bool.not_true, Bool.not_false, Bool.and_true, Bool.true_and, Bool.and_false, Bool.false_and, Bool.or_true, Bool.true_or, Bool.or_false, Bool.false_or, if_true, if_false, Bool.false_eq_true, ite_true, ite_false, reduceCtorEq, Tw.fEq_i, Tw.fNe_i, Tw.fIn_i, Tw.fIn_iC, Tw.fIn_iL, Tw.fNotIn_iC, Tw.fIn_P, Tw.fNotIn_P, Tw.fNotIn_C, Tw.fLt_C, Tw.fLt_i, Tw.fGt_i, Tw.fLe_i, Tw.fGe_i, Tw.atI_0, Tw.atI_1, Tw.atI_2, true_and, and_true, eq_self, tkOf_P, cntP_get hx', cntP_put hx']
      refine ⟨by rw [cntP_length]; omega, hR2 _ ⟨some (.d (encP x)), ?_⟩⟩
      rw [foldl_step hx]
    · subst hδ
      refine hR _ ⟨b, some (.d (encC c)), ?_⟩
      rw [foldl_step hk, foldl_snoc]
  · subst hδ
    have e1 : cs.foldl (fun L c => L ++ pairsC c) [] = cs.flatMap pairsC := by
      have := foldl_app pairsC cs []
      simpa using this
    simp only [v_var, v_c, v_g2, v_gN, v_op, v_B, v_chain, v_and, v_or, v_not, v_andV, v_orV, v_notV, v_if, v_nil, v_cons, v_tup, v_lst, v_call, v_fn, v_next, v_seq, v_break, v_contS, v_drop, v_ret, v_retN, v_retOwn, v_retOwnN, v_ifS, v_never, v_asg, v_gname, v_gnil, v_gcons, v_gtup, v_is1, v_is2, v_tru, v_noPart, v_part, v_cut, v_dnew, v_fdnew, v_flst, v_flstRg, v_span, v_rg1, v_rg2, v_frep, v_fdict, v_asgF, v_append, v_extend, v_popAt, v_pop, v_augIx, v_for, v_while, v_any, v_range1, v_range2, v_zip, v_enumT, v_enum, v_vals, v_items, v_yes, v_lc, v_lcOwn, v_lc2, v_all, v_dc, v_dcOwn, v_par, v_parF, v_par3F, v_par3L, v_inN, v_dget, v_dput, v_daug, v_rel, opt_some, opt_none, opt_ite, opt_map, isD_d, isB_b, isI_i, isL_l, isT'_t, isDict_d, isDV_d, dat1_d, dat2_d, vget_d, vget_row, vget_own, vget_oN, ownL_o, ownN_o, look_nil, look_zero, look_succ, cont_d, cont_vw, rd_d', rd_own', dd_d', dd_oN', startD, List.map_cons, List.map_nil, List.length_cons, List.length_nil, List.replicate, List.cons_append, List.nil_append, List.append_nil, List.set_cons_zero, List.set_cons_succ, List.set_nil, hide, wipeD, noOwn, datas, conts, rds, Nat.reduceAdd, Nat.reduceSub, List.all_cons, List.all_nil, DV.isOwn, fAdd, fInt, fSub, fFDiv, fMod, fMul, fIs, fIsNot, fIx, fCut, isT, cLen, cTuple, cList, cSum, cMax, cMin, cInt, cStr, truD, seqD, zipOf, isNone, fAddI, Bool.not_true, Bool.not_false, Bool.and_true, Bool.true_and, Bool.and_false, Bool.false_and, Bool.or_true, Bool.true_or, Bool.or_false, Bool.false_or, if_true, if_false, Bool.false_eq_true, ite_true, ite_false, reduceCtorEq, Tw.fEq_i, Tw.fNe_i, Tw.fIn_i, Tw.fIn_iC, Tw.fIn_iL, Tw.fNotIn_iC, Tw.fIn_P, Tw.fNotIn_P, Tw.fNotIn_C, Tw.fLt_C, Tw.fLt_i, Tw.fGt_i, Tw.fLe_i, Tw.fGe_i, Tw.atI_0, Tw.atI_1, Tw.atI_2, true_and, and_true, eq_self]
    rw [e1]
    exact h2
end
end K4
namespace K4
open PySem PySem.Spec L2 DL Tw
theorem fNe_b (a b : Bool) : fNe (.bool a) (.bool b) = some (.bool (!decide (a = b))) := by
  unfold fNe
  rw [(Sh.bool 0 a).shaped, (Sh.bool 0 b).shaped]
  cases a <;> cases b <;> rfl
theorem fEq_b (a b : Bool) : fEq (.bool a) (.bool b) = some (.bool (decide (a = b))) := by
  unfold fEq
  rw [(Sh.bool 0 a).shaped, (Sh.bool 0 b).shaped]
  cases a <;> cases b <;> rfl
theorem fEq_n : fEq .none .none = some (.bool true) := by
  unfold fEq
  rw [(Sh.none 0).shaped]
  rfl
theorem fEq_s {a : Str} (h : PyData.strOk a = true) : fEq (.str a) (.str a) = some (.bool true) := by
  unfold fEq
  rw [Sh.shaped (k := 0) (d := .str a) ⟨by simpa [PyData.canLay0] using h, by simp [PyData.depth]⟩]
  simp [PyData.eqv]
theorem filter_none {α : Type} (l : List α) : (l.filter fun _ => false) = [] := by induction l <;> simp_all
section
variable {P : Program} {w : World} {K : PySem.W.Frag} {mg : Str → Option Value} {base : Heap} {T : List Addr}
abbrev s__law_alike : Stmt := topS 18
theorem sc__law_alike : FnScope ["found", "due", "k"] ["found", "due"] (defScope s__law_alike) := ⟨rfl, rfl, rfl, by decide +kernel, rfl, by decide +kernel, by decide +kernel⟩
theorem ok__law_alike {c : Addr} (F : FunC K mg "_law_alike" s__law_alike c) (Tx : Txt mg) : ∀ n : Nat, Cal P w K mg base T n "_law_alike" ["found", "due"] (g__law_alike n)
  | 0 => by
    obtain ⟨f, oc, od, kV, doc, pm, an, ct, osl, hm, hk, lk, hcd⟩ := F.ex
    refine ⟨f, _, hm, hk, .all (fd := PySem.W.fnOf "_law_alike" "_law_alike" (defArgs s__law_alike) (defBody s__law_alike) (defScope s__law_alike) .none kV doc pm an (.ref c) ct) (fun us hl => match us, hl with | [_, _], _ => rfl), ⟨fun vs H Q E ⟨R, M, ds, QD, XD, W, hv, no, hg, _⟩ => ?_, fun A outer s H args us vs Q E hr h0 hb hvs ⟨R, M, ds, QD, XD, W, hv, no, hg, _⟩ => ?_⟩⟩ <;>
      (unfold g__law_alike at hg; split at hg <;> first | exact hg.2.1.elim | exact hg.elim)
  | n + 1 => by
    have c__law_alike := ok__law_alike F Tx n
    have nd := sc__law_alike.nd
    refine cal_of (P := P) (w := w) (K := K) (mg := mg) (base := base) (T := T) F sc__law_alike (fun ds QD XD h => by unfold g__law_alike at h; split at h <;> first | rfl | exact h.elim) _ (fun _ _ _ _ _ _ us hl => match us, hl with | [_, _], _ => rfl) (fun f A outer s H E XD B => (psd_cons (psd_if (ptd_val (pd_is2 .tuple .list (by rfl) Tx.isinstance (pd_var (pv 1)) (by rfl) Tx.tuple bt_tuple (by rfl) Tx.list bt_list)) (psd_cons (psd_if (PWD.pt (pwd_or (ptd_not (ptd_val (pd_is2 .tuple .list (by rfl) Tx.isinstance (pd_var (pv 0)) (by rfl) Tx.tuple bt_tuple (by rfl) Tx.list bt_list))) (pwd_or1 (ptd_cmp (op_neDD (B.room.u64)) (pd_is1 .list (by rfl) Tx.isinstance (pd_var (pv 0)) (by rfl) Tx.list bt_list) (pd_is1 .list (by rfl) Tx.isinstance (pd_var (pv 1)) (by rfl) Tx.list bt_list) (by rfl))))) (psd_one (psd_ret pd_bl))
    psd_nil)
    (psd_cons (psd_if (ptd_cmp (op_neDD (B.room.u64)) (pd_callB (call_lenD) (by rfl) Tx.len bt_len (pad_cons (pd_var (pv 0)) pad_nil)) (pd_callB (call_lenD) (by rfl) Tx.len bt_len (pad_cons (pd_var (pv 1)) pad_nil)) (by rfl)) (psd_one (psd_ret pd_bl))
    psd_nil)
    (psd_one (psd_ret (pd_cmp (op_eqDD (B.room.u64)) (pd_lc (own := [("k", 2)]) rfl nd (pid_range1 (by rfl) Tx.range (pad_cons (pd_callB (call_lenD) (by rfl) Tx.len bt_len (pad_cons (pd_var (pv 1)) pad_nil)) pad_nil)) (blkOk_by (by first | rfl | kernel_rfl)) (fun s H C cl fp => (pgd_name (pg_name (i := 2) nd rfl (by first | exact .inl rfl | exact .inr rfl)))) (fun s H C cl fp => (ptsd_one (ptd_not (ptd_val (pd_callC c__law_alike (B.room.mono (by first | decide | exact Nat.le_refl _)) passL (pad_cons (pd_ix ix_D (pd_var (pv 0)) (pd_var (pv 2)) (fun _ _ => rfl)) (pad_cons (pd_ix ix_D (pd_var (pv 1)) (pd_var (pv 2)) (fun _ _ => rfl)) pad_nil))))))) (fun s H C cl fp => (pd_var (pv 2)))) (pd_lst pad_nil) (by rfl))))))
    psd_nil)
    (psd_cons (psd_if (PWD.pt (pwd_or (ptd_cmp op_isD (pd_var (pv 1)) pd_non (by rfl)) (pwd_or1 (ptd_val (pd_is1 .str (by rfl) Tx.isinstance (pd_var (pv 1)) (by rfl) Tx.str bt_str))))) (psd_one (psd_ret (pd_and (pd_cmp (op_eqDD (B.room.u64)) (pd_var (pv 0)) (pd_var (pv 1)) (by rfl)) (pd_one (pd_cmp (op_eqDD (B.room.u64)) (pd_is1 .str (by rfl) Tx.isinstance (pd_var (pv 0)) (by rfl) Tx.str bt_str) (pd_is1 .str (by rfl) Tx.isinstance (pd_var (pv 1)) (by rfl) Tx.str bt_str) (by rfl))))))
    psd_nil)
    (psd_one (psd_ret (pd_and (pd_is1 .int (by rfl) Tx.isinstance (pd_var (pv 0)) (by rfl) Tx.int bt_int) (pd_and (pd_cmp (op_eqDD (B.room.u64)) (pd_is1 .bool (by rfl) Tx.isinstance (pd_var (pv 0)) (by rfl) Tx.bool bt_bool) (pd_is1 .bool (by rfl) Tx.isinstance (pd_var (pv 1)) (by rfl) Tx.bool bt_bool) (by rfl)) (pd_one (pd_cmp (op_eqDD (B.room.u64)) (pd_var (pv 0)) (pd_var (pv 1)) (by rfl)))))))))) ?_
    intro ds QD XD h
    unfold g__law_alike at h
    split at h
    case h_2 => exact h.elim
    rename_i x d
    obtain ⟨rfl, ha, hq⟩ := h
    have hs := PySem.sizeLine_eq
    cases x with
    | dict D => exact ha.elim
    | int i =>
      simp only [v_var, v_c, v_g2, v_gN, v_op, v_B, v_chain, v_and, v_or, v_not, v_andV, v_orV, v_notV, v_if, v_nil, v_cons, v_tup, v_lst, v_call, v_fn, v_next, v_seq, v_break, v_contS, v_drop, v_ret, v_retN, v_retOwn, v_retOwnN, v_ifS, v_never, v_asg, v_gname, v_gnil, v_gcons, v_gtup, v_is1, v_is2, v_tru, v_noPart, v_part, v_cut, v_dnew, v_fdnew, v_flst, v_flstRg, v_span, v_rg1, v_rg2, v_frep, v_fdict, v_asgF, v_append, v_extend, v_popAt, v_pop, v_augIx, v_for, v_while, v_any, v_range1, v_range2, v_zip, v_enumT, v_enum, v_vals, v_items, v_yes, v_lc, v_lcOwn, v_lc2, v_all, v_dc, v_dcOwn, v_par, v_parF, v_par3F, v_par3L, v_inN, v_dget, v_dput, v_daug, v_rel, opt_some, opt_none, opt_ite, opt_map, isD_d, isB_b, isI_i, isL_l, isT'_t, isDict_d, isDV_d, dat1_d, dat2_d, vget_d, vget_row, vget_own, vget_oN, ownL_o, ownN_o, look_nil, look_zero, look_succ, cont_d, cont_vw, rd_d', rd_own', dd_d', dd_oN', startD, List.map_cons, List.map_nil, List.length_cons, List.length_nil, List.replicate, List.cons_append, List.nil_append, List.append_nil, List.set_cons_zero, List.set_cons_succ, List.set_nil, hide, wipeD, noOwn, datas, conts, rds, Nat.reduceAdd, Nat.reduceSub, List.all_cons, List.all_nil, DV.isOwn, fAdd, fInt, fSub, fFDiv, fMod, fMul, fIs, fIsNot, fIx, fCut, isT, cLen, cTuple, cList, cSum, cMax, cMin, cInt, cStr, truD, seqD, zipOf, isNone, fAddI, Bool.not_true, Bool.not_false, Bool.and_true, Bool.true_and, Bool.and_false, Bool.false_and, Bool.or_true, Bool.true_or, Bool.or_false, Bool.false_or, if_true, if_false, Bool.false_eq_true, ite_true, ite_false, reduceCtorEq, Tw.fEq_i, Tw.fNe_i, Tw.fIn_i, Tw.fIn_iC, Tw.fIn_iL, Tw.fNotIn_iC, Tw.fIn_P, Tw.fNotIn_P, Tw.fNotIn_C, Tw.fLt_C, Tw.fLt_i, Tw.fGt_i, Tw.fLe_i, Tw.fGe_i, Tw.atI_0, Tw.atI_1, Tw.atI_2, true_and, and_true, eq_self, fNe_b, fEq_b, fEq_n, isNone]
      simpa using hq
    | bool i =>
      simp only [v_var, v_c, v_g2, v_gN, v_op, v_B, v_chain, v_and, v_or, v_not, v_andV, v_orV, v_notV, v_if, v_nil, v_cons, v_tup, v_lst, v_call, v_fn, v_next, v_seq, v_break, v_contS, v_drop, v_ret, v_retN, v_retOwn, v_retOwnN, v_ifS, v_never, v_asg, v_gname, v_gnil, v_gcons, v_gtup, v_is1, v_is2, v_tru, v_noPart, v_part, v_cut, v_dnew, v_fdnew, v_flst, v_flstRg, v_span, v_rg1, v_rg2, v_frep, v_fdict, v_asgF, v_append, v_extend, v_popAt, v_pop, v_augIx, v_for, v_while, v_any, v_range1, v_range2, v_zip, v_enumT, v_enum, v_vals, v_items, v_yes, v_lc, v_lcOwn, v_lc2, v_all, v_dc, v_dcOwn, v_par, v_parF, v_par3F, v_par3L, v_inN, v_dget, v_dput, v_daug, v_rel, opt_some, opt_none, opt_ite, opt_map, isD_d, isB_b, isI_i, isL_l, isT'_t, isDict_d, isDV_d, dat1_d, dat2_d, vget_d, vget_row, vget_own, vget_oN, ownL_o, ownN_o, look_nil, look_zero, look_succ, cont_d, cont_vw, rd_d', rd_own', dd_d', dd_oN', startD, List.map_cons, List.map_nil, List.length_cons, List.length_nil, List.replicate, List.cons_append, List.nil_append, List.append_nil, List.set_cons_zero, List.set_cons_succ, List.set_nil, hide, wipeD, noOwn, datas, conts, rds, Nat.reduceAdd, Nat.reduceSub, List.all_cons, List.all_nil, DV.isOwn, fAdd, fInt, fSub, fFDiv, fMod, fMul, fIs, fIsNot, fIx, fCut, isT, cLen, cTuple, cList, cSum, cMax, cMin, cInt, cStr, truD, seqD, zipOf, isNone, fAddI, Bool.not_true, Bool.not_false, Bool.and_true, Bool.true_and, Bool.and_false, Bool.false_and, Bool.or_true, Bool.true_or, Bool.or_false, Bool.false_or, if_true, if_false, Bool.false_eq_true, ite_true, ite_false, reduceCtorEq, Tw.fEq_i, Tw.fNe_i, Tw.fIn_i, Tw.fIn_iC, Tw.fIn_iL, Tw.fNotIn_iC, Tw.fIn_P, Tw.fNotIn_P, Tw.fNotIn_C, Tw.fLt_C, Tw.fLt_i, Tw.fGt_i, Tw.fLe_i, Tw.fGe_i, Tw.atI_0, Tw.atI_1, Tw.atI_2, true_and, and_true, eq_self, fNe_b, fEq_b, fEq_n, isNone]
      simpa using hq
    | none =>
      simp only [v_var, v_c, v_g2, v_gN, v_op, v_B, v_chain, v_and, v_or, v_not, v_andV, v_orV, v_notV, v_if, v_nil, v_cons, v_tup, v_lst, v_call, v_fn, v_next, v_seq, v_break, v_contS, v_drop, v_ret, v_retN, v_retOwn, v_retOwnN, v_ifS, v_never, v_asg, v_gname, v_gnil, v_gcons, v_gtup, v_is1, v_is2, v_tru, v_noPart, v_part, v_cut, v_dnew, v_fdnew, v_flst, v_flstRg, v_span, v_rg1, v_rg2, v_frep, v_fdict, v_asgF, v_append, v_extend, v_popAt, v_pop, v_augIx, v_for, v_while, v_any, v_range1, v_range2, v_zip, v_enumT, v_enum, v_vals, v_items, v_yes, v_lc, v_lcOwn, v_lc2, v_all, v_dc, v_dcOwn, v_par, v_parF, v_par3F, v_par3L, v_inN, v_dget, v_dput, v_daug, v_rel, opt_some, opt_none, opt_ite, opt_map, isD_d, isB_b, isI_i, isL_l, isT'_t, isDict_d, isDV_d, dat1_d, dat2_d, vget_d, vget_row, vget_own, vget_oN, ownL_o, ownN_o, look_nil, look_zero, look_succ, cont_d, cont_vw, rd_d', rd_own', dd_d', dd_oN', startD, List.map_cons, List.map_nil, List.length_cons, List.length_nil, List.replicate, List.cons_append, List.nil_append, List.append_nil, List.set_cons_zero, List.set_cons_succ, List.set_nil, hide, wipeD, noOwn, datas, conts, rds, Nat.reduceAdd, Nat.reduceSub, List.all_cons, List.all_nil, DV.isOwn, fAdd, fInt, fSub, fFDiv, fMod, fMul, fIs, fIsNot, fIx, fCut, isT, cLen, cTuple, cList, cSum, cMax, cMin, cInt, cStr, truD, seqD, zipOf, isNone, fAddI, Bool.not_true, Bool.not_false, Bool.and_true, Bool.true_and, Bool.and_false, Bool.false_and, Bool.or_true, Bool.true_or, Bool.or_false, Bool.false_or, if_true, if_false, Bool.false_eq_true, ite_true, ite_false, reduceCtorEq, Tw.fEq_i, Tw.fNe_i, Tw.fIn_i, Tw.fIn_iC, Tw.fIn_iL, Tw.fNotIn_iC, Tw.fIn_P, Tw.fNotIn_P, Tw.fNotIn_C, Tw.fLt_C, Tw.fLt_i, Tw.fGt_i, Tw.fLe_i, Tw.fGe_i, Tw.atI_0, Tw.atI_1, Tw.atI_2, true_and, and_true, eq_self, fNe_b, fEq_b, fEq_n, isNone]
      simpa using hq
    | str i =>
      have e := fEq_s ha
      simp only [v_var, v_c, v_g2, v_gN, v_op, v_B, v_chain, v_and, v_or, v_not, v_andV, v_orV, v_notV, v_if, v_nil, v_cons, v_tup, v_lst, v_call, v_fn, v_next, v_seq, v_break, v_contS, v_drop, v_ret, v_retN, v_retOwn, v_retOwnN, v_ifS, v_never, v_asg, v_gname, v_gnil, v_gcons, v_gtup, v_is1, v_is2, v_tru, v_noPart, v_part, v_cut, v_dnew, v_fdnew, v_flst, v_flstRg, v_span, v_rg1, v_rg2, v_frep, v_fdict, v_asgF, v_append, v_extend, v_popAt, v_pop, v_augIx, v_for, v_while, v_any, v_range1, v_range2, v_zip, v_enumT, v_enum, v_vals, v_items, v_yes, v_lc, v_lcOwn, v_lc2, v_all, v_dc, v_dcOwn, v_par, v_parF, v_par3F, v_par3L, v_inN, v_dget, v_dput, v_daug, v_rel, opt_some, opt_none, opt_ite, opt_map, isD_d, isB_b, isI_i, isL_l, isT'_t, isDict_d, isDV_d, dat1_d, dat2_d, vget_d, vget_row, vget_own, vget_oN, ownL_o, ownN_o, look_nil, look_zero, look_succ, cont_d, cont_vw, rd_d', rd_own', dd_d', dd_oN', startD, List.map_cons, List.map_nil, List.length_cons, List.length_nil, List.replicate, List.cons_append, List.nil_append, List.append_nil, List.set_cons_zero, List.set_cons_succ, List.set_nil, hide, wipeD, noOwn, datas, conts, rds, Nat.reduceAdd, Nat.reduceSub, List.all_cons, List.all_nil, DV.isOwn, fAdd, fInt, fSub, fFDiv, fMod, fMul, fIs, fIsNot, fIx, fCut, isT, cLen, cTuple, cList, cSum, cMax, cMin, cInt, cStr, truD, seqD, zipOf, isNone, fAddI, Bool.not_true, Bool.not_false, Bool.and_true, Bool.true_and, Bool.and_false, Bool.false_and, Bool.or_true, Bool.true_or, Bool.or_false, Bool.false_or, if_true, if_false, Bool.false_eq_true, ite_true, ite_false, reduceCtorEq, Tw.fEq_i, Tw.fNe_i, Tw.fIn_i, Tw.fIn_iC, Tw.fIn_iL, Tw.fNotIn_iC, Tw.fIn_P, Tw.fNotIn_P, Tw.fNotIn_C, Tw.fLt_C, Tw.fLt_i, Tw.fGt_i, Tw.fLe_i, Tw.fGe_i, Tw.atI_0, Tw.atI_1, Tw.atI_2, true_and, and_true, eq_self, fNe_b, fEq_b, fEq_n, e, isNone]
      simpa using hq
    | tuple l =>
      obtain ⟨h1, h2⟩ := ha
      simp only [v_var, v_c, v_g2, v_gN, v_op, v_B, v_chain, v_and, v_or, v_not, v_andV, v_orV, v_notV, v_if, v_nil, v_cons, v_tup, v_lst, v_call, v_fn, v_next, v_seq, v_break, v_contS, v_drop, v_ret, v_retN, v_retOwn, v_retOwnN, v_ifS, v_never, v_asg, v_gname, v_gnil, v_gcons, v_gtup, v_is1, v_is2, v_tru, v_noPart, v_part, v_cut, v_dnew, v_fdnew, v_flst, v_flstRg, v_span, v_rg1, v_rg2, v_frep, v_fdict, v_asgF, v_append, v_extend, v_popAt, v_pop, v_augIx, v_for, v_while, v_any, v_range1, v_range2, v_zip, v_enumT, v_enum, v_vals, v_items, v_yes, v_lc, v_lcOwn, v_lc2, v_all, v_dc, v_dcOwn, v_par, v_parF, v_par3F, v_par3L, v_inN, v_dget, v_dput, v_daug, v_rel, opt_some, opt_none, opt_ite, opt_map, isD_d, isB_b, isI_i, isL_l, isT'_t, isDict_d, isDV_d, dat1_d, dat2_d, vget_d, vget_row, vget_own, vget_oN, ownL_o, ownN_o, look_nil, look_zero, look_succ, cont_d, cont_vw, rd_d', rd_own', dd_d', dd_oN', startD, List.map_cons, List.map_nil, List.length_cons, List.length_nil, List.replicate, List.cons_append, List.nil_append, List.append_nil, List.set_cons_zero, List.set_cons_succ, List.set_nil, hide, wipeD, noOwn, datas, conts, rds, Nat.reduceAdd, Nat.reduceSub, List.all_cons, List.all_nil, DV.isOwn, fAdd, fInt, fSub, fFDiv, fMod, fMul, fIs, fIsNot, fIx, fCut, isT, cLen, cTuple, cList, cSum, cMax, cMin, cInt, cStr, truD, seqD, zipOf, isNone, fAddI, Bool.not_true, Bool.not_false, Bool.and_true, Bool.true_and, Bool.and_false, Bool.false_and, Bool.or_true, Bool.true_or, Bool.or_false, Bool.false_or, if_true, if_false, Bool.false_eq_true, ite_true, ite_false, reduceCtorEq, Tw.fEq_i, Tw.fNe_i, Tw.fIn_i, Tw.fIn_iC, Tw.fIn_iL, Tw.fNotIn_iC, Tw.fIn_P, Tw.fNotIn_P, Tw.fNotIn_C, Tw.fLt_C, Tw.fLt_i, Tw.fGt_i, Tw.fLe_i, Tw.fGe_i, Tw.atI_0, Tw.atI_1, Tw.atI_2, true_and, and_true, eq_self, fNe_b, fEq_b, fEq_n, isNone, decide_true]
      refine ⟨by omega, by omega, ?_⟩
      rw [rng0_ir]
      refine lcD_filter .int (fun _ => false) (by rw [ir_length]; omega) (fun k hk R Z => ?_) ?_
      · have hk' := mem_ir.mp hk
        obtain ⟨x, e, hx⟩ := atI_mem hk'.1 hk'.2
        simp only [v_var, v_c, v_g2, v_gN, v_op, v_B, v_chain, v_and, v_or, v_not, v_andV, v_orV, v_notV, v_if, v_nil, v_cons, v_tup, v_lst, v_call, v_fn, v_next, v_seq, v_break, v_contS, v_drop, v_ret, v_retN, v_retOwn, v_retOwnN, v_ifS, v_never, v_asg, v_gname, v_gnil, v_gcons, v_gtup, v_is1, v_is2, v_tru, v_noPart, v_part, v_cut, v_dnew, v_fdnew, v_flst, v_flstRg, v_span, v_rg1, v_rg2, v_frep, v_fdict, v_asgF, v_append, v_extend, v_popAt, v_pop, v_augIx, v_for, v_while, v_any, v_range1, v_range2, v_zip, v_enumT, v_enum, v_vals, v_items, v_yes, v_lc, v_lcOwn, v_lc2, v_all, v_dc, v_dcOwn, v_par, v_parF, v_par3F, v_par3L, v_inN, v_dget, v_dput, v_daug, v_rel, opt_some, opt_none, opt_ite, opt_map, isD_d, isB_b, isI_i, isL_l, isT'_t, isDict_d, isDV_d, dat1_d, dat2_d, vget_d, vget_row, vget_own, vget_oN, ownL_o, ownN_o, look_nil, look_zero, look_succ, cont_d, cont_vw, rd_d', rd_own', dd_d', dd_oN', startD, List.map_cons, List.map_nil, List.length_cons, List.length_nil, List.replicate, List.cons_append, List.nil_append, List.append_nil, List.set_cons_zero, List.set_cons_succ, List.set_nil, hide, wipeD, noOwn, datas, conts, rds, Nat.reduceAdd, Nat.reduceSub, List.all_cons, List.all_nil, DV.isOwn, fAdd, fInt, fSub, fFDiv, fMod, fMul, fIs, fIsNot, fIx, fCut, isT, cLen, cTuple, cList, cSum, cMax, cMin, cInt, cStr, truD, seqD, zipOf, isNone, fAddI, Bool.not_true, Bool.not_false, Bool.and_true, Bool.true_and, Bool.and_false, Bool.false_and, Bool.or_true, Bool.true_or, Bool.or_false, Bool.false_or, if_true, if_false, Bool.false_eq_true, ite_true, ite_false, reduceCtorEq, Tw.fEq_i, Tw.fNe_i, Tw.fIn_i, Tw.fIn_iC, Tw.fIn_iL, Tw.fNotIn_iC, Tw.fIn_P, Tw.fNotIn_P, Tw.fNotIn_C, Tw.fLt_C, Tw.fLt_i, Tw.fGt_i, Tw.fLe_i, Tw.fGe_i, Tw.atI_0, Tw.atI_1, Tw.atI_2, true_and, and_true, eq_self, g__law_alike, e]
        exact ⟨h2 x hx, Z⟩
      · rw [filter_none, List.map_nil, fEq_nil (k := 0) (fun x h => by cases h) (by decide), opt_some]
        simpa using hq
    | list l =>
      obtain ⟨h1, h2⟩ := ha
      simp only [v_var, v_c, v_g2, v_gN, v_op, v_B, v_chain, v_and, v_or, v_not, v_andV, v_orV, v_notV, v_if, v_nil, v_cons, v_tup, v_lst, v_call, v_fn, v_next, v_seq, v_break, v_contS, v_drop, v_ret, v_retN, v_retOwn, v_retOwnN, v_ifS, v_never, v_asg, v_gname, v_gnil, v_gcons, v_gtup, v_is1, v_is2, v_tru, v_noPart, v_part, v_cut, v_dnew, v_fdnew, v_flst, v_flstRg, v_span, v_rg1, v_rg2, v_frep, v_fdict, v_asgF, v_append, v_extend, v_popAt, v_pop, v_augIx, v_for, v_while, v_any, v_range1, v_range2, v_zip, v_enumT, v_enum, v_vals, v_items, v_yes, v_lc, v_lcOwn, v_lc2, v_all, v_dc, v_dcOwn, v_par, v_parF, v_par3F, v_par3L, v_inN, v_dget, v_dput, v_daug, v_rel, opt_some, opt_none, opt_ite, opt_map, isD_d, isB_b, isI_i, isL_l, isT'_t, isDict_d, isDV_d, dat1_d, dat2_d, vget_d, vget_row, vget_own, vget_oN, ownL_o, ownN_o, look_nil, look_zero, look_succ, cont_d, cont_vw, rd_d', rd_own', dd_d', dd_oN', startD, List.map_cons, List.map_nil, List.length_cons, List.length_nil, List.replicate, List.cons_append, List.nil_append, List.append_nil, List.set_cons_zero, List.set_cons_succ, List.set_nil, hide, wipeD, noOwn, datas, conts, rds, Nat.reduceAdd, Nat.reduceSub, List.all_cons, List.all_nil, DV.isOwn, fAdd, fInt, fSub, fFDiv, fMod, fMul, fIs, fIsNot, fIx, fCut, isT, cLen, cTuple, cList, cSum, cMax, cMin, cInt, cStr, truD, seqD, zipOf, isNone, fAddI, Bool.not_true, Bool.not_false, Bool.and_true, Bool.true_and, Bool.and_false, Bool.false_and, Bool.or_true, Bool.true_or, Bool.or_false, Bool.false_or, if_true, if_false, Bool.false_eq_true, ite_true, ite_false, reduceCtorEq, Tw.fEq_i, Tw.fNe_i, Tw.fIn_i, Tw.fIn_iC, Tw.fIn_iL, Tw.fNotIn_iC, Tw.fIn_P, Tw.fNotIn_P, Tw.fNotIn_C, Tw.fLt_C, Tw.fLt_i, Tw.fGt_i, Tw.fLe_i, Tw.fGe_i, Tw.atI_0, Tw.atI_1, Tw.atI_2, true_and, and_true, eq_self, fNe_b, fEq_b, fEq_n, isNone, decide_true]
      refine ⟨by omega, by omega, ?_⟩
      rw [rng0_ir]
      refine lcD_filter .int (fun _ => false) (by rw [ir_length]; omega) (fun k hk R Z => ?_) ?_
      · have hk' := mem_ir.mp hk
        obtain ⟨x, e, hx⟩ := atI_mem hk'.1 hk'.2
        simp only [v_var, v_c, v_g2, v_gN, v_op, v_B, v_chain, v_and, v_or, v_not, v_andV, v_orV, v_notV, v_if, v_nil, v_cons, v_tup, v_lst, v_call, v_fn, v_next, v_seq, v_break, v_contS, v_drop, v_ret, v_retN, v_retOwn, v_retOwnN, v_ifS, v_never, v_asg, v_gname, v_gnil, v_gcons, v_gtup, v_is1, v_is2, v_tru, v_noPart, v_part, v_cut, v_dnew, v_fdnew, v_flst, v_flstRg, v_span, v_rg1, v_rg2, v_frep, v_fdict, v_asgF, v_append, v_extend, v_popAt, v_pop, v_augIx, v_for, v_while, v_any, v_range1, v_range2, v_zip, v_enumT, v_enum, v_vals, v_items, v_yes, v_lc, v_lcOwn, v_lc2, v_all, v_dc, v_dcOwn, v_par, v_parF, v_par3F, v_par3L, v_inN, v_dget, v_dput, v_daug, v_rel, opt_some, opt_none, opt_ite, opt_map, isD_d, isB_b, isI_i, isL_l, isT'_t, isDict_d, isDV_d, dat1_d, dat2_d, vget_d, vget_row, vget_own, vget_oN, ownL_o, ownN_o, look_nil, look_zero, look_succ, cont_d, cont_vw, rd_d', rd_own', dd_d', dd_oN', startD, List.map_cons, List.map_nil, List.length_cons, List.length_nil, List.replicate, List.cons_append, List.nil_append, List.append_nil, List.set_cons_zero, List.set_cons_succ, List.set_nil, hide, wipeD, noOwn, datas, conts, rds, Nat.reduceAdd, Nat.reduceSub, List.all_cons, List.all_nil, DV.isOwn, fAdd, fInt, fSub, fFDiv, fMod, fMul, fIs, fIsNot, fIx, fCut, isT, cLen, cTuple, cList, cSum, cMax, cMin, cInt, cStr, truD, seqD, zipOf, isNone, fAddI, Bool.not_true, Bool.not_false, Bool.and_true, Bool.true_and, Bool.and_false, Bool.false_and, Bool.or_true, Bool.true_or, Bool.or_false, Bool.false_or, if_true, if_false, Bool.false_eq_true, ite_true, ite_false, reduceCtorEq, Tw.fEq_i, Tw.fNe_i, Tw.fIn_i, Tw.fIn_iC, Tw.fIn_iL, Tw.fNotIn_iC, Tw.fIn_P, Tw.fNotIn_P, Tw.fNotIn_C, Tw.fLt_C, Tw.fLt_i, Tw.fGt_i, Tw.fLe_i, Tw.fGe_i, Tw.atI_0, Tw.atI_1, Tw.atI_2, true_and, and_true, eq_self, g__law_alike, e]
        exact ⟨h2 x hx, Z⟩
      · rw [filter_none, List.map_nil, fEq_nil (k := 0) (fun x h => by cases h) (by decide), opt_some]
        simpa using hq
end
end K4
namespace K4
open PySem PySem.Spec L2 DL Tw
def g__law_any_town : Gf := fun ds QD _ => match ds with
  | [.row, .d (.int m)] => 3 ≤ m ∧ m ≤ 12 ∧ ∀ n cs, n ≤ m → TownS n cs → cs.length ≤ 6 → QD (encT n cs)
  | _ => False
def g__law_begun : Gf := fun ds QD _ => match ds with
  | [.row, .d (.int m)] => 3 ≤ m ∧ m ≤ 12 ∧ ∀ n cs, n ≤ m → TownS n cs → cs.length ≤ 6 → Single cs → QD (encT n cs)
  | _ => False
def g__law_called : Gf := fun ds QD _ => match ds with
  | [.row, .d v] => ∃ n cs, v = encT n cs ∧ TownS n cs ∧ ∀ f, Names n f → QD (encT n (callT f cs))
  | _ => False
theorem subs_ok : ∀ (k : Nat) (c : List Int), c ∈ subs k → c.Pairwise (· < ·) ∧ ∀ x ∈ c, 0 ≤ x ∧ x < k
  | 0, c, h => by simp [subs] at h; subst h; simp
  | k + 1, c, h => by
    rw [subs, List.mem_append] at h
    rcases h with h | h
    · obtain ⟨h1, h2⟩ := subs_ok k c h
      exact ⟨h1, fun x hx => by have := h2 x hx; omega⟩
    · obtain ⟨d, hd, rfl⟩ := List.mem_map.mp h
      obtain ⟨h1, h2⟩ := subs_ok k d hd
      refine ⟨?_, fun x hx => ?_⟩
      · rw [List.pairwise_append]
        refine ⟨h1, List.pairwise_singleton _ _, fun a ha b hb => ?_⟩
        have := h2 a ha
        simp at hb
        omega
      · rw [List.mem_append] at hx
        rcases hx with hx | hx
        · have := h2 x hx; omega
        · simp at hx; omega
theorem clubsN_ok {n : Int} (h : 0 ≤ n) {c : List Int} (hc : c ∈ clubsN n) : ClubV n c := by
  unfold clubsN at hc
  rw [List.mem_filter] at hc
  obtain ⟨h1, h2⟩ := hc
  obtain ⟨h3, h4⟩ := subs_ok _ _ h1
  simp only [Bool.and_eq_true, decide_eq_true_eq] at h2
  exact ⟨by omega, h2.2, fun x hx => by have := h4 x hx; omega, h3⟩
theorem subs_01 : ∀ k : Nat, [0, 1] ∈ subs (k + 2)
  | 0 => by decide
  | k + 1 => by rw [subs]; exact List.mem_append_left _ (subs_01 k)
theorem clubsN_ne {n : Int} (h : 3 ≤ n) : clubsN n ≠ [] := by
  have : [0, 1] ∈ clubsN n := by
    unfold clubsN
    rw [List.mem_filter]
    refine ⟨?_, by simp; omega⟩
    have := subs_01 (n.toNat - 2)
    rwa [show n.toNat - 2 + 2 = n.toNat by omega] at this
  intro e; rw [e] at this; cases this
theorem clubsN_len {n : Int} (h : n ≤ 12) : (clubsN n).length ≤ 4096 := by
  have h1 := List.length_filter_le (fun c : List Int => decide (1 < (c.length : Int)) && decide ((c.length : Int) < n)) (subs n.toNat)
  have h2 := subs_len n.toNat
  have h3 : 2 ^ n.toNat ≤ 2 ^ 12 := Nat.pow_le_pow_right (by decide) (by omega)
  unfold clubsN
  omega
theorem nodup_snoc {α : Type} {l : List α} {a : α} (h : l.Nodup) (ha : a ∉ l) : (l ++ [a]).Nodup := by
  rw [List.nodup_append]
  exact ⟨h, by simp, fun x hx y hy e => by simp at hy; subst hy; exact ha (e ▸ hx)⟩
theorem cSorted_C {cs : List (List Int)} (h : ∀ c ∈ cs, c ≠ []) : cSorted [.list (cs.map encC)] = some (.list ((srtC cs).map encC)) := by
  unfold cSorted
  simp only [sortOk_C cs h, sortD_C, if_true]
theorem cSorted_I {c : List Int} : cSorted [.list (c.map .int)] = some (.list ((srtI c).map .int)) := by
  unfold cSorted
  simp only [sortOk_I c, sortD_I, if_true]
theorem club_ne {n : Int} {cs : List (List Int)} (h : ∀ c ∈ cs, ClubV n c) : ∀ c ∈ cs, c ≠ [] := fun c hc e => by
  have := (h c hc).two
  rw [e] at this
  simp at this
def freeN (n : Int) (cs : List (List Int)) : List (Int × Int) := (pairsN n).filter fun p => decide (both cs p.1 p.2 = 0)
theorem freeN_nil (n : Int) : freeN n [] = pairsN n := List.filter_eq_self.mpr fun p _ => rfl
theorem freeN_len {n : Int} (h : n ≤ 31) (cs : List (List Int)) : (freeN n cs).length ≤ 961 := Nat.le_trans (List.length_filter_le _ _) (pairsN_len n h)
theorem freeN_snoc {n : Int} {cs : List (List Int)} {c : List Int} (hc : c.Pairwise (· < ·)) : (freeN n cs).filter (fun q => !decide (q ∈ pairsC c)) = freeN n (cs ++ [c]) := by
  unfold freeN
  rw [List.filter_filter]
  refine List.filter_congr fun p hp => ?_
  have hl := (mem_pairsN.mp hp).2.1
  rw [both_app, both_one]
  by_cases h1 : p ∈ pairsC c
  · have := (mem_pairsC hc).mp h1
    simp [h1, this.1, this.2.1]
  · have : ¬ (p.1 ∈ c ∧ p.2 ∈ c) := fun q => h1 ((mem_pairsC hc).mpr ⟨q.1, q.2, hl⟩)
    simp [h1, this]
theorem begun_step {n : Int} {cs : List (List Int)} {c : List Int} (hv : ClubV n c) (hcs : ∀ d ∈ cs, ClubV n d) (hn : cs.Nodup) (hs : Single cs) (h : ∀ q ∈ pairsC c, q ∈ freeN n cs) : (cs ++ [c]).Nodup ∧ Single (cs ++ [c]) ∧ ∀ d ∈ cs ++ [c], ClubV n d := by
  have key : ∀ a b, a < b → a ∈ c → b ∈ c → both cs a b = 0 := fun a b hab ha hb => by
    have := h (a, b) ((mem_pairsC hv.asc).mpr ⟨ha, hb, hab⟩)
    unfold freeN at this
    rw [List.mem_filter] at this
    exact of_decide_eq_true this.2
  refine ⟨nodup_snoc hn fun hm => ?_, fun a b hab => ?_, fun d hd => ?_⟩
  · have h2 := hv.two
    match c, hv, key, hm, h2 with
    | a :: b :: r, hv, key, hm, _ =>
      have hab : a < b := (List.pairwise_cons.mp hv.asc).1 b (by simp)
      have e := key a b hab (by simp) (by simp)
      have : 0 < both cs a b := both_pos.mpr ⟨_, hm, by simp, by simp⟩
      omega
  · rw [both_app, both_one]
    have := hs a b hab
    split
    · rename_i hh
      have := key a b hab hh.1 hh.2
      omega
    · omega
  · rw [List.mem_append] at hd
    rcases hd with hd | hd
    · exact hcs d hd
    · simp at hd; subst hd; exact hv
section
variable {P : Program} {w : World} {K : PySem.W.Frag} {mg : Str → Option Value} {base : Heap} {T : List Addr}
abbrev s__law_any_town : Stmt := topS 24
theorem sc__law_any_town : FnScope ["row", "most", "people", "every", "clubs", "turn", "club"] ["row", "most"] (defScope s__law_any_town) := ⟨rfl, rfl, rfl, by decide +kernel, rfl, by decide +kernel, by decide +kernel⟩
theorem ok__law_any_town {c : Addr} (F : FunC K mg "_law_any_town" s__law_any_town c) (Tx : Txt mg) (c__law_clubs : Cal P w K mg base T 2 "_law_clubs" ["people"] (g__law_clubs)) (c__law_pick : Cal P w K mg base T 2 "_law_pick" ["row", "things"] (g__law_pick)) (c__law_taken : Cal P w K mg base T 1 "_law_taken" ["row", "many"] (g__law_taken)) : Cal P w K mg base T 3 "_law_any_town" ["row", "most"] g__law_any_town := by
  have nd := sc__law_any_town.nd
  refine cal_of (P := P) (w := w) (K := K) (mg := mg) (base := base) (T := T) F sc__law_any_town (fun ds QD XD h => by unfold g__law_any_town at h; split at h <;> first | rfl | exact h.elim) _ (fun _ _ _ _ _ _ us hl => match us, hl with | [_, _], _ => rfl) (fun f A outer s H E XD B => (psd_cons (psd_set (i := 2) nd rfl (by first | exact .inl rfl | exact .inr rfl) (pd_op op_addD pd_int (pd_callC c__law_taken (B.room.mono (by first | decide | exact Nat.le_refl _)) B.pass (pad_cons (pd_var (pv 0)) (pad_cons (pd_op op_subD (pd_var (pv 1)) pd_int) pad_nil)))))
    (psd_cons (psd_par (i := 3) (j := 4) rfl nd rfl rfl (by decide) rfl rfl (pad_cons (pd_callC c__law_clubs (B.room.mono (by first | decide | exact Nat.le_refl _)) B.pass (pad_cons (pd_var (pv 2)) pad_nil)) (pad_cons (pd_lst pad_nil) pad_nil)) (by rfl))
    (psd_cons (psd_for (vs := [5]) B.own rfl (pid_range1 (by rfl) Tx.range (pad_cons (pd_callC c__law_taken (B.room.mono (by first | decide | exact Nat.le_refl _)) B.pass (pad_cons (pd_var (pv 0)) (pad_cons pd_int pad_nil))) pad_nil)) (pgd_name (pg_name (i := 5) nd rfl (by first | exact .inl rfl | exact .inr rfl)))
    (psd_cons (psd_set (i := 6) nd rfl (by first | exact .inl rfl | exact .inr rfl) (pd_callC c__law_pick (B.room.mono (by first | decide | exact Nat.le_refl _)) B.pass (pad_cons (pd_var (pv 0)) (pad_cons (pd_var (pv 3)) pad_nil))))
    (psd_one (psd_set (i := 4) nd rfl (by first | exact .inl rfl | exact .inr rfl) (pd_op op_addD (pd_var (pv 4)) (pd_ifExp (ptd_cmp (op_notInDD (B.room.u65)) (pd_var (pv 6)) (pd_var (pv 4)) (by rfl)) (pd_lst (pad_cons (pd_var (pv 6)) pad_nil)) (pd_lst pad_nil)))))))
    (psd_one (psd_ret (pd_tup (pad_cons (pd_var (pv 2)) (pad_cons (pd_callTy (call_tupleD) (by rfl) Tx.tuple bt_tuple (pad_cons (pd_callB (call_sortedD (B.room.u100)) (by rfl) Tx.sorted bt_sorted (pad_cons (pd_var (pv 4)) pad_nil)) pad_nil)) pad_nil))))))))) ?_
  intro ds QD XD h
  unfold g__law_any_town at h
  split at h
  case h_2 => exact h.elim

  rename_i m
  obtain ⟨h1, h2, h3⟩ := h
  simp only [v_var, v_c, v_g2, v_gN, v_op, v_B, v_chain, v_and, v_or, v_not, v_andV, v_orV, v_notV, v_if, v_nil, v_cons, v_tup, v_lst, v_call, v_fn, v_next, v_seq, v_break, v_contS, v_drop, v_ret, v_retN, v_retOwn, v_retOwnN, v_ifS, v_never, v_asg, v_gname, v_gnil, v_gcons, v_gtup, v_is1, v_is2, v_tru, v_noPart, v_part, v_cut, v_dnew, v_fdnew, v_flst, v_flstRg, v_span, v_rg1, v_rg2, v_frep, v_fdict, v_asgF, v_append, v_extend, v_popAt, v_pop, v_augIx, v_for, v_while, v_any, v_range1, v_range2, v_zip, v_enumT, v_enum, v_vals, v_items, v_yes, v_lc, v_lcOwn, v_lc2, v_all, v_dc, v_dcOwn, v_par, v_parF, v_par3F, v_par3L, v_inN, v_dget, v_dput, v_daug, v_rel, opt_some, opt_none, opt_ite, opt_map, isD_d, isB_b, isI_i, isL_l, isT'_t, isDict_d, isDV_d, dat1_d, dat2_d, vget_d, vget_row, vget_own, vget_oN, ownL_o, ownN_o, look_nil, look_zero, look_succ, cont_d, cont_vw, rd_d', rd_own', dd_d', dd_oN', startD, List.map_cons, List.map_nil, List.length_cons, List.length_nil, List.replicate, List.cons_append, List.nil_append, List.append_nil, List.set_cons_zero, List.set_cons_succ, List.set_nil, hide, wipeD, noOwn, datas, conts, rds, Nat.reduceAdd, Nat.reduceSub, List.all_cons, List.all_nil, DV.isOwn, fAdd, fInt, fSub, fFDiv, fMod, fMul, fIs, fIsNot, fIx, fCut, isT, cLen, cTuple, cList, cSum, cMax, cMin, cInt, cStr, truD, seqD, zipOf, isNone, fAddI, Bool.not_true, Bool.not_false, Bool.and_true, Bool.true_and, Bool.and_false, Bool.false_and, Bool.or_true, Bool.true_or, Bool.or_false, Bool.false_or, if_true, if_false, Bool.false_eq_true, ite_true, ite_false, reduceCtorEq, Tw.fEq_i, Tw.fNe_i, Tw.fIn_i, Tw.fIn_iC, Tw.fIn_iL, Tw.fNotIn_iC, Tw.fIn_P, Tw.fNotIn_P, Tw.fNotIn_C, Tw.fLt_C, Tw.fLt_i, Tw.fGt_i, Tw.fLe_i, Tw.fGe_i, Tw.atI_0, Tw.atI_1, Tw.atI_2, true_and, and_true, eq_self, g__law_taken, g_taken, g__law_clubs]
  have hs := PySem.sizeLine_eq
  refine ⟨by omega, by omega, fun k k0 k1 => ⟨by omega, by omega, by omega, by omega, by omega, fun j j0 j1 => ⟨by omega, by omega, ?_⟩⟩⟩
  generalize hn : 3 + k = n at *
  have hl := clubsN_len (n := n) (by omega)
  rw [rng0_ir]
  refine forD_ty .int (fun k δ => ∃ (cs : List (List Int)) (a b : Option DV), δ = [some .row, some (.d (.int m)), some (.d (.int n)), some (.d (.list ((clubsN n).map encC))), some (.d (.list (cs.map encC))), a, b] ∧ cs.Nodup ∧ (∀ c ∈ cs, ClubV n c) ∧ cs.length ≤ k) ⟨[], none, none, rfl, List.nodup_nil, (fun c hc => by cases hc), Nat.le_refl _⟩ (fun k x δ hk ⟨cs, a, b, hδ, i1, i2, i3⟩ => ?_) (fun δ ⟨cs, a, b, hδ, i1, i2, i3⟩ => ?_)
  · subst hδ
    have hk' : k < j.toNat := by
      have := (List.getElem?_eq_some_iff.mp hk).1
      rw [ir_length] at this; omega
    simp only [v_var, v_c, v_g2, v_gN, v_op, v_B, v_chain, v_and, v_or, v_not, v_andV, v_orV, v_notV, v_if, v_nil, v_cons, v_tup, v_lst, v_call, v_fn, v_next, v_seq, v_break, v_contS, v_drop, v_ret, v_retN, v_retOwn, v_retOwnN, v_ifS, v_never, v_asg, v_gname, v_gnil, v_gcons, v_gtup, v_is1, v_is2, v_tru, v_noPart, v_part, v_cut, v_dnew, v_fdnew, v_flst, v_flstRg, v_span, v_rg1, v_rg2, v_frep, v_fdict, v_asgF, v_append, v_extend, v_popAt, v_pop, v_augIx, v_for, v_while, v_any, v_range1, v_range2, v_zip, v_enumT, v_enum, v_vals, v_items, v_yes, v_lc, v_lcOwn, v_lc2, v_all, v_dc, v_dcOwn, v_par, v_parF, v_par3F, v_par3L, v_inN, v_dget, v_dput, v_daug, v_rel, opt_some, opt_none, opt_ite, opt_map, isD_d, isB_b, isI_i, isL_l, isT'_t, isDict_d, isDV_d, dat1_d, dat2_d, vget_d, vget_row, vget_own, vget_oN, ownL_o, ownN_o, look_nil, look_zero, look_succ, cont_d, cont_vw, rd_d', rd_own', dd_d', dd_oN', startD, List.map_cons, List.map_nil, List.length_cons, List.length_nil, List.replicate, List.cons_append, List.nil_append, List.append_nil, List.set_cons_zero, List.set_cons_succ, List.set_nil, hide, wipeD, noOwn, datas, conts, rds, Nat.reduceAdd, Nat.reduceSub, List.all_cons, List.all_nil, DV.isOwn, fAdd, fInt, fSub, fFDiv, fMod, fMul, fIs, fIsNot, fIx, fCut, isT, cLen, cTuple, cList, cSum, cMax, cMin, cInt, cStr, truD, seqD, zipOf, isNone, fAddI, Bool.not_true, Bool.not_false, Bool.and_true, Bool.true_and, Bool.and_false, Bool.false_and, Bool.or_true, Bool.true_or, Bool.or_false, Bool.false_or, if_true, if_false, Bool.false_eq_true, ite_true, ite_false, reduceCtorEq, Tw.fEq_i, Tw.fNe_i, Tw.fIn_i, Tw.fIn_iC, Tw.fIn_iL, Tw.fNotIn_iC, Tw.fIn_P, Tw.fNotIn_P, Tw.fNotIn_C, Tw.fLt_C, Tw.fLt_i, Tw.fGt_i, Tw.fLe_i, Tw.fGe_i, Tw.atI_0, Tw.atI_1, Tw.atI_2, true_and, and_true, eq_self, g__law_pick]
    refine ⟨by simpa using clubsN_ne (n := n) (by omega), by rw [List.length_map]; omega, fun y hy => ?_⟩
    obtain ⟨c, hc, rfl⟩ := List.mem_map.mp hy
    have hv := clubsN_ok (by omega) hc
    simp only [v_var, v_c, v_g2, v_gN, v_op, v_B, v_chain, v_and, v_or, v_not, v_andV, v_orV, v_notV, v_if, v_nil, v_cons, v_tup, v_lst, v_call, v_fn, v_next, v_seq, v_break, v_contS, v_drop, v_ret, v_retN, v_retOwn, v_retOwnN, v_ifS, v_never, v_asg, v_gname, v_gnil, v_gcons, v_gtup, v_is1, v_is2, v_tru, v_noPart, v_part, v_cut, v_dnew, v_fdnew, v_flst, v_flstRg, v_span, v_rg1, v_rg2, v_frep, v_fdict, v_asgF, v_append, v_extend, v_popAt, v_pop, v_augIx, v_for, v_while, v_any, v_range1, v_range2, v_zip, v_enumT, v_enum, v_vals, v_items, v_yes, v_lc, v_lcOwn, v_lc2, v_all, v_dc, v_dcOwn, v_par, v_parF, v_par3F, v_par3L, v_inN, v_dget, v_dput, v_daug, v_rel, opt_some, opt_none, opt_ite, opt_map, isD_d, isB_b, isI_i, isL_l, isT'_t, isDict_d, isDV_d, dat1_d, dat2_d, vget_d, vget_row, vget_own, vget_oN, ownL_o, ownN_o, look_nil, look_zero, look_succ, cont_d, cont_vw, rd_d', rd_own', dd_d', dd_oN', startD, List.map_cons, List.map_nil, List.length_cons, List.length_nil, List.replicate, List.cons_append, List.nil_append, List.append_nil, List.set_cons_zero, List.set_cons_succ, List.set_nil, hide, wipeD, noOwn, datas, conts, rds, Nat.reduceAdd, Nat.reduceSub, List.all_cons, List.all_nil, DV.isOwn, fAdd, fInt, fSub, fFDiv, fMod, fMul, fIs, fIsNot, fIx, fCut, isT, cLen, cTuple, cList, cSum, cMax, cMin, cInt, cStr, truD, seqD, zipOf, isNone, fAddI, Bool.not_true, Bool.not_false, Bool.and_true, Bool.true_and, Bool.and_false, Bool.false_and, Bool.or_true, Bool.true_or, Bool.or_false, Bool.false_or, if_true, if_false, Bool.false_eq_true, ite_true, ite_false, reduceCtorEq, Tw.fEq_i, Tw.fNe_i, Tw.fIn_i, Tw.fIn_iC, Tw.fIn_iL, Tw.fNotIn_iC, Tw.fIn_P, Tw.fNotIn_P, Tw.fNotIn_C, Tw.fLt_C, Tw.fLt_i, Tw.fGt_i, Tw.fLe_i, Tw.fGe_i, Tw.atI_0, Tw.atI_1, Tw.atI_2, true_and, and_true, eq_self]
    by_cases hm : c ∈ cs
    · simp only [hm, decide_true, Bool.not_true, Bool.false_eq_true, if_false]
      refine ⟨by omega, by rw [List.length_map]; omega, cs, _, _, rfl, i1, i2, by omega⟩
    · simp only [hm, decide_false, Bool.not_false, if_true]
      refine ⟨by omega, by rw [List.length_map]; omega, cs ++ [c], _, _, by rw [List.map_append]; rfl, nodup_snoc i1 hm, fun d hd => ?_, by simp; omega⟩
      rw [List.mem_append] at hd
      rcases hd with hd | hd
      · exact i2 d hd
      · simp at hd; subst hd; exact hv
  · subst hδ
    rw [ir_length] at i3
    simp only [v_var, v_c, v_g2, v_gN, v_op, v_B, v_chain, v_and, v_or, v_not, v_andV, v_orV, v_notV, v_if, v_nil, v_cons, v_tup, v_lst, v_call, v_fn, v_next, v_seq, v_break, v_contS, v_drop, v_ret, v_retN, v_retOwn, v_retOwnN, v_ifS, v_never, v_asg, v_gname, v_gnil, v_gcons, v_gtup, v_is1, v_is2, v_tru, v_noPart, v_part, v_cut, v_dnew, v_fdnew, v_flst, v_flstRg, v_span, v_rg1, v_rg2, v_frep, v_fdict, v_asgF, v_append, v_extend, v_popAt, v_pop, v_augIx, v_for, v_while, v_any, v_range1, v_range2, v_zip, v_enumT, v_enum, v_vals, v_items, v_yes, v_lc, v_lcOwn, v_lc2, v_all, v_dc, v_dcOwn, v_par, v_parF, v_par3F, v_par3L, v_inN, v_dget, v_dput, v_daug, v_rel, opt_some, opt_none, opt_ite, opt_map, isD_d, isB_b, isI_i, isL_l, isT'_t, isDict_d, isDV_d, dat1_d, dat2_d, vget_d, vget_row, vget_own, vget_oN, ownL_o, ownN_o, look_nil, look_zero, look_succ, cont_d, cont_vw, rd_d', rd_own', dd_d', dd_oN', startD, List.map_cons, List.map_nil, List.length_cons, List.length_nil, List.replicate, List.cons_append, List.nil_append, List.append_nil, List.set_cons_zero, List.set_cons_succ, List.set_nil, hide, wipeD, noOwn, datas, conts, rds, Nat.reduceAdd, Nat.reduceSub, List.all_cons, List.all_nil, DV.isOwn, fAdd, fInt, fSub, fFDiv, fMod, fMul, fIs, fIsNot, fIx, fCut, isT, cLen, cTuple, cList, cSum, cMax, cMin, cInt, cStr, truD, seqD, zipOf, isNone, fAddI, Bool.not_true, Bool.not_false, Bool.and_true, Bool.true_and, Bool.and_false, Bool.false_and, Bool.or_true, Bool.true_or, Bool.or_false, Bool.false_or, if_true, if_false, Bool.false_eq_true, ite_true, ite_false, reduceCtorEq, Tw.fEq_i, Tw.fNe_i, Tw.fIn_i, Tw.fIn_iC, Tw.fIn_iL, Tw.fNotIn_iC, Tw.fIn_P, Tw.fNotIn_P, Tw.fNotIn_C, Tw.fLt_C, Tw.fLt_i, Tw.fGt_i, Tw.fLe_i, Tw.fGe_i, Tw.atI_0, Tw.atI_1, Tw.atI_2, true_and, and_true, eq_self, cSorted_C (club_ne i2)]
    refine ⟨two_size, h3 n (srtC cs) (by omega) (town_srt (by omega) (by omega) i2 i1 (by omega)) (by rw [srtC_len]; omega)⟩
abbrev s__law_begun : Stmt := topS 25
theorem sc__law_begun : FnScope ["row", "most", "people", "clubs", "free", "turn", "club", "pair"] ["row", "most"] (defScope s__law_begun) := ⟨rfl, rfl, rfl, by decide +kernel, rfl, by decide +kernel, by decide +kernel⟩
theorem ok__law_begun {c : Addr} (F : FunC K mg "_law_begun" s__law_begun c) (Tx : Txt mg) (c__law_clubs : Cal P w K mg base T 2 "_law_clubs" ["people"] (g__law_clubs)) (c__law_pairs : Cal P w K mg base T 2 "_law_pairs" ["halls"] (g__law_pairs)) (c__law_pick : Cal P w K mg base T 2 "_law_pick" ["row", "things"] (g__law_pick)) (c__law_taken : Cal P w K mg base T 1 "_law_taken" ["row", "many"] (g__law_taken)) (c__law_within : Cal P w K mg base T 2 "_law_within" ["club"] (g__law_within)) : Cal P w K mg base T 3 "_law_begun" ["row", "most"] g__law_begun := by
  have nd := sc__law_begun.nd
  refine cal_of (P := P) (w := w) (K := K) (mg := mg) (base := base) (T := T) F sc__law_begun (fun ds QD XD h => by unfold g__law_begun at h; split at h <;> first | rfl | exact h.elim) _ (fun _ _ _ _ _ _ us hl => match us, hl with | [_, _], _ => rfl) (fun f A outer s H E XD B => (psd_cons (psd_par3LG (i := 2) (j := 3) (l := 4) rfl (pg_name nd rfl (by first | exact .inl rfl | exact .inr rfl)) (pg_name nd rfl (by first | exact .inl rfl | exact .inr rfl)) (pg_name nd rfl (by first | exact .inl rfl | exact .inr rfl)) (pd_op op_addD pd_int (pd_callC c__law_taken (B.room.mono (by first | decide | exact Nat.le_refl _)) B.pass (pad_cons (pd_var (pv 0)) (pad_cons (pd_op op_subD (pd_var (pv 1)) pd_int) pad_nil)))))
    (psd_cons (psd_set (i := 4) nd rfl (by first | exact .inl rfl | exact .inr rfl) (pd_callC c__law_pairs (B.room.mono (by first | decide | exact Nat.le_refl _)) B.pass (pad_cons (pd_var (pv 2)) pad_nil)))
    (psd_cons (psd_for (vs := [5]) B.own rfl (pid_range1 (by rfl) Tx.range (pad_cons (pd_callC c__law_taken (B.room.mono (by first | decide | exact Nat.le_refl _)) B.pass (pad_cons (pd_var (pv 0)) (pad_cons pd_int pad_nil))) pad_nil)) (pgd_name (pg_name (i := 5) nd rfl (by first | exact .inl rfl | exact .inr rfl)))
    (psd_cons (psd_set (i := 6) nd rfl (by first | exact .inl rfl | exact .inr rfl) (pd_callC c__law_pick (B.room.mono (by first | decide | exact Nat.le_refl _)) B.pass (pad_cons (pd_var (pv 0)) (pad_cons (pd_callC c__law_clubs (B.room.mono (by first | decide | exact Nat.le_refl _)) B.pass (pad_cons (pd_var (pv 2)) pad_nil)) pad_nil))))
    (psd_one (psd_if (ptd_cmp (op_eqDD (B.room.u64)) (pd_lc (own := [("pair", 7)]) rfl nd (pid_any (pd_callC c__law_within (B.room.mono (by first | decide | exact Nat.le_refl _)) B.pass (pad_cons (pd_var (pv 6)) pad_nil))) (blkOk_by (by first | rfl | kernel_rfl)) (fun s H C cl fp => (pgd_name (pg_name (i := 7) nd rfl (by first | exact .inl rfl | exact .inr rfl)))) (fun s H C cl fp => (ptsd_one (ptd_cmp (op_notInDD (B.room.u65)) (pd_var (pv 7)) (pd_var (pv 4)) (by rfl)))) (fun s H C cl fp => (pd_var (pv 7)))) (pd_lst pad_nil) (by rfl)) (psd_cons (psd_append (pv 3) (pd_var (pv 6)))
    (psd_one (psd_set (i := 4) nd rfl (by first | exact .inl rfl | exact .inr rfl) (pd_lc (own := [("pair", 7)]) rfl nd (pid_any (pd_var (pv 4))) (blkOk_by (by first | rfl | kernel_rfl)) (fun s H C cl fp => (pgd_name (pg_name (i := 7) nd rfl (by first | exact .inl rfl | exact .inr rfl)))) (fun s H C cl fp => (ptsd_one (ptd_cmp (op_notInDD (B.room.u65)) (pd_var (pv 7)) (pd_callC c__law_within (B.room.mono (by first | decide | exact Nat.le_refl _)) passL (pad_cons (pd_var (pv 6)) pad_nil)) (by rfl)))) (fun s H C cl fp => (pd_var (pv 7)))))))
    psd_nil))))
    (psd_one (psd_ret (pd_tup (pad_cons (pd_var (pv 2)) (pad_cons (pd_callTy (call_tupleD) (by rfl) Tx.tuple bt_tuple (pad_cons (pd_callB (call_sortedD (B.room.u100)) (by rfl) Tx.sorted bt_sorted (pad_cons (pd_var (pv 3)) pad_nil)) pad_nil)) pad_nil))))))))) ?_
  intro ds QD XD h
  unfold g__law_begun at h
  split at h
  case h_2 => exact h.elim

  rename_i m
  obtain ⟨h1, h2, h3⟩ := h
  simp only [v_var, v_c, v_g2, v_gN, v_op, v_B, v_chain, v_and, v_or, v_not, v_andV, v_orV, v_notV, v_if, v_nil, v_cons, v_tup, v_lst, v_call, v_fn, v_next, v_seq, v_break, v_contS, v_drop, v_ret, v_retN, v_retOwn, v_retOwnN, v_ifS, v_never, v_asg, v_gname, v_gnil, v_gcons, v_gtup, v_is1, v_is2, v_tru, v_noPart, v_part, v_cut, v_dnew, v_fdnew, v_flst, v_flstRg, v_span, v_rg1, v_rg2, v_frep, v_fdict, v_asgF, v_append, v_extend, v_popAt, v_pop, v_augIx, v_for, v_while, v_any, v_range1, v_range2, v_zip, v_enumT, v_enum, v_vals, v_items, v_yes, v_lc, v_lcOwn, v_lc2, v_all, v_dc, v_dcOwn, v_par, v_parF, v_par3F, v_par3L, v_inN, v_dget, v_dput, v_daug, v_rel, opt_some, opt_none, opt_ite, opt_map, isD_d, isB_b, isI_i, isL_l, isT'_t, isDict_d, isDV_d, dat1_d, dat2_d, vget_d, vget_row, vget_own, vget_oN, ownL_o, ownN_o, look_nil, look_zero, look_succ, cont_d, cont_vw, rd_d', rd_own', dd_d', dd_oN', startD, List.map_cons, List.map_nil, List.length_cons, List.length_nil, List.replicate, List.cons_append, List.nil_append, List.append_nil, List.set_cons_zero, List.set_cons_succ, List.set_nil, hide, wipeD, noOwn, datas, conts, rds, Nat.reduceAdd, Nat.reduceSub, List.all_cons, List.all_nil, DV.isOwn, fAdd, fInt, fSub, fFDiv, fMod, fMul, fIs, fIsNot, fIx, fCut, isT, cLen, cTuple, cList, cSum, cMax, cMin, cInt, cStr, truD, seqD, zipOf, isNone, fAddI, Bool.not_true, Bool.not_false, Bool.and_true, Bool.true_and, Bool.and_false, Bool.false_and, Bool.or_true, Bool.true_or, Bool.or_false, Bool.false_or, if_true, if_false, Bool.false_eq_true, ite_true, ite_false, reduceCtorEq, Tw.fEq_i, Tw.fNe_i, Tw.fIn_i, Tw.fIn_iC, Tw.fIn_iL, Tw.fNotIn_iC, Tw.fIn_P, Tw.fNotIn_P, Tw.fNotIn_C, Tw.fLt_C, Tw.fLt_i, Tw.fGt_i, Tw.fLe_i, Tw.fGe_i, Tw.atI_0, Tw.atI_1, Tw.atI_2, true_and, and_true, eq_self, g__law_taken, g_taken, g__law_clubs, g__law_pairs]
  have hs := PySem.sizeLine_eq
  refine ⟨by omega, by omega, fun k k0 k1 => ⟨by omega, by omega, by omega, by omega, fun j j0 j1 => ⟨by omega, by omega, ?_⟩⟩⟩
  generalize hn : 3 + k = n at *
  have hl := clubsN_len (n := n) (by omega)
  rw [rng0_ir]
  refine forD_ty .int (fun k δ => ∃ (cs : List (List Int)) (a b c : Option DV), δ = [some .row, some (.d (.int m)), some (.d (.int n)), some (.own (cs.map encC)), some (.d (.list ((freeN n cs).map encP))), a, b, c] ∧ cs.Nodup ∧ (∀ c ∈ cs, ClubV n c) ∧ Single cs ∧ cs.length ≤ k) ⟨[], none, none, none, by rw [freeN_nil]; rfl, List.nodup_nil, (fun c hc => by cases hc), (fun a b _ => Nat.zero_le _), Nat.le_refl _⟩ (fun k x δ hk ⟨cs, a, b, e, hδ, i1, i2, i4, i3⟩ => ?_) (fun δ ⟨cs, a, b, e, hδ, i1, i2, i4, i3⟩ => ?_)
  · subst hδ
    have hk' : k < j.toNat := by
      have := (List.getElem?_eq_some_iff.mp hk).1
      rw [ir_length] at this; omega
    simp only [v_var, v_c, v_g2, v_gN, v_op, v_B, v_chain, v_and, v_or, v_not, v_andV, v_orV, v_notV, v_if, v_nil, v_cons, v_tup, v_lst, v_call, v_fn, v_next, v_seq, v_break, v_contS, v_drop, v_ret, v_retN, v_retOwn, v_retOwnN, v_ifS, v_never, v_asg, v_gname, v_gnil, v_gcons, v_gtup, v_is1, v_is2, v_tru, v_noPart, v_part, v_cut, v_dnew, v_fdnew, v_flst, v_flstRg, v_span, v_rg1, v_rg2, v_frep, v_fdict, v_asgF, v_append, v_extend, v_popAt, v_pop, v_augIx, v_for, v_while, v_any, v_range1, v_range2, v_zip, v_enumT, v_enum, v_vals, v_items, v_yes, v_lc, v_lcOwn, v_lc2, v_all, v_dc, v_dcOwn, v_par, v_parF, v_par3F, v_par3L, v_inN, v_dget, v_dput, v_daug, v_rel, opt_some, opt_none, opt_ite, opt_map, isD_d, isB_b, isI_i, isL_l, isT'_t, isDict_d, isDV_d, dat1_d, dat2_d, vget_d, vget_row, vget_own, vget_oN, ownL_o, ownN_o, look_nil, look_zero, look_succ, cont_d, cont_vw, rd_d', rd_own', dd_d', dd_oN', startD, List.map_cons, List.map_nil, List.length_cons, List.length_nil, List.replicate, List.cons_append, List.nil_append, List.append_nil, List.set_cons_zero, List.set_cons_succ, List.set_nil, hide, wipeD, noOwn, datas, conts, rds, Nat.reduceAdd, Nat.reduceSub, List.all_cons, List.all_nil, DV.isOwn, fAdd, fInt, fSub, fFDiv, fMod, fMul, fIs, fIsNot, fIx, fCut, isT, cLen, cTuple, cList, cSum, cMax, cMin, cInt, cStr, truD, seqD, zipOf, isNone, fAddI, Bool.not_true, Bool.not_false, Bool.and_true, Bool.true_and, Bool.and_false, Bool.false_and, Bool.or_true, Bool.true_or, Bool.or_false, Bool.false_or, if_true, if_false, Bool.false_eq_true, ite_true, ite_false, reduceCtorEq, Tw.fEq_i, Tw.fNe_i, Tw.fIn_i, Tw.fIn_iC, Tw.fIn_iL, Tw.fNotIn_iC, Tw.fIn_P, Tw.fNotIn_P, Tw.fNotIn_C, Tw.fLt_C, Tw.fLt_i, Tw.fGt_i, Tw.fLe_i, Tw.fGe_i, Tw.atI_0, Tw.atI_1, Tw.atI_2, true_and, and_true, eq_self, g__law_pick, g__law_clubs]
    refine ⟨by omega, by omega, by simpa using clubsN_ne (n := n) (by omega), by rw [List.length_map]; omega, fun y hy => ?_⟩
    obtain ⟨c, hc, rfl⟩ := List.mem_map.mp hy
    have hv := clubsN_ok (by omega) hc
    have hcl := hv.less
    have hpc := pairsC_len c
    have hpc2 : c.length * c.length ≤ 12 * 12 := Nat.mul_le_mul (by omega) (by omega)
    have hfl := freeN_len (n := n) (by omega) cs
    simp only [v_var, v_c, v_g2, v_gN, v_op, v_B, v_chain, v_and, v_or, v_not, v_andV, v_orV, v_notV, v_if, v_nil, v_cons, v_tup, v_lst, v_call, v_fn, v_next, v_seq, v_break, v_contS, v_drop, v_ret, v_retN, v_retOwn, v_retOwnN, v_ifS, v_never, v_asg, v_gname, v_gnil, v_gcons, v_gtup, v_is1, v_is2, v_tru, v_noPart, v_part, v_cut, v_dnew, v_fdnew, v_flst, v_flstRg, v_span, v_rg1, v_rg2, v_frep, v_fdict, v_asgF, v_append, v_extend, v_popAt, v_pop, v_augIx, v_for, v_while, v_any, v_range1, v_range2, v_zip, v_enumT, v_enum, v_vals, v_items, v_yes, v_lc, v_lcOwn, v_lc2, v_all, v_dc, v_dcOwn, v_par, v_parF, v_par3F, v_par3L, v_inN, v_dget, v_dput, v_daug, v_rel, opt_some, opt_none, opt_ite, opt_map, isD_d, isB_b, isI_i, isL_l, isT'_t, isDict_d, isDV_d, dat1_d, dat2_d, vget_d, vget_row, vget_own, vget_oN, ownL_o, ownN_o, look_nil, look_zero, look_succ, cont_d, cont_vw, rd_d', rd_own', dd_d', dd_oN', startD, List.map_cons, List.map_nil, List.length_cons, List.length_nil, List.replicate, List.cons_append, List.nil_append, List.append_nil, List.set_cons_zero, List.set_cons_succ, List.set_nil, hide, wipeD, noOwn, datas, conts, rds, Nat.reduceAdd, Nat.reduceSub, List.all_cons, List.all_nil, DV.isOwn, fAdd, fInt, fSub, fFDiv, fMod, fMul, fIs, fIsNot, fIx, fCut, isT, cLen, cTuple, cList, cSum, cMax, cMin, cInt, cStr, truD, seqD, zipOf, isNone, fAddI, Bool.not_true, Bool.not_false, Bool.and_true, Bool.true_and, Bool.and_false, Bool.false_and, Bool.or_true, Bool.true_or, Bool.or_false, Bool.false_or, if_true, if_false, Bool.false_eq_true, ite_true, ite_false, reduceCtorEq, Tw.fEq_i, Tw.fNe_i, Tw.fIn_i, Tw.fIn_iC, Tw.fIn_iL, Tw.fNotIn_iC, Tw.fIn_P, Tw.fNotIn_P, Tw.fNotIn_C, Tw.fLt_C, Tw.fLt_i, Tw.fGt_i, Tw.fLe_i, Tw.fGe_i, Tw.atI_0, Tw.atI_1, Tw.atI_2, true_and, and_true, eq_self, g__law_within]
    refine ⟨c, rfl, by omega, ?_⟩
    refine lcD_filter encP (fun q => !decide (q ∈ freeN n cs)) (by omega) (fun q hq R Z => ?_) ?_
    · simp only [v_var, v_c, v_g2, v_gN, v_op, v_B, v_chain, v_and, v_or, v_not, v_andV, v_orV, v_notV, v_if, v_nil, v_cons, v_tup, v_lst, v_call, v_fn, v_next, v_seq, v_break, v_contS, v_drop, v_ret, v_retN, v_retOwn, v_retOwnN, v_ifS, v_never, v_asg, v_gname, v_gnil, v_gcons, v_gtup, v_is1, v_is2, v_tru, v_noPart, v_part, v_cut, v_dnew, v_fdnew, v_flst, v_flstRg, v_span, v_rg1, v_rg2, v_frep, v_fdict, v_asgF, v_append, v_extend, v_popAt, v_pop, v_augIx, v_for, v_while, v_any, v_range1, v_range2, v_zip, v_enumT, v_enum, v_vals, v_items, v_yes, v_lc, v_lcOwn, v_lc2, v_all, v_dc, v_dcOwn, v_par, v_parF, v_par3F, v_par3L, v_inN, v_dget, v_dput, v_daug, v_rel, opt_some, opt_none, opt_ite, opt_map, isD_d, isB_b, isI_i, isL_l, isT'_t, isDict_d, isDV_d, dat1_d, dat2_d, vget_d, vget_row, vget_own, vget_oN, ownL_o, ownN_o, look_nil, look_zero, look_succ, cont_d, cont_vw, rd_d', rd_own', dd_d', dd_oN', startD, List.map_cons, List.map_nil, List.length_cons, List.length_nil, List.replicate, List.cons_append, List.nil_append, List.append_nil, List.set_cons_zero, List.set_cons_succ, List.set_nil, hide, wipeD, noOwn, datas, conts, rds, Nat.reduceAdd, Nat.reduceSub, List.all_cons, List.all_nil, DV.isOwn, fAdd, fInt, fSub, fFDiv, fMod, fMul, fIs, fIsNot, fIx, fCut, isT, cLen, cTuple, cList, cSum, cMax, cMin, cInt, cStr, truD, seqD, zipOf, isNone, fAddI, Bool.not_true, Bool.not_false, Bool.and_true, Bool.true_and, Bool.and_false, Bool.false_and, Bool.or_true, Bool.true_or, Bool.or_false, Bool.false_or, if_true, if_false, Bool.false_eq_true, ite_true, ite_false, reduceCtorEq, Tw.fEq_i, Tw.fNe_i, Tw.fIn_i, Tw.fIn_iC, Tw.fIn_iL, Tw.fNotIn_iC, Tw.fIn_P, Tw.fNotIn_P, Tw.fNotIn_C, Tw.fLt_C, Tw.fLt_i, Tw.fGt_i, Tw.fLe_i, Tw.fGe_i, Tw.atI_0, Tw.atI_1, Tw.atI_2, true_and, and_true, eq_self]
      cases h : decide (q ∈ freeN n cs) <;> rw [h] at Z <;> simpa using Z
    rw [fEq_nil (k := 1) (fun x hx => by obtain ⟨q, _, rfl⟩ := List.mem_map.mp hx; exact sh_P q) (by decide), opt_some]
    refine ⟨by omega, ?_⟩
    by_cases hf : ∀ q ∈ pairsC c, q ∈ freeN n cs
    · have he : ((pairsC c).filter fun q => !decide (q ∈ freeN n cs)).map encP = [] := by
        rw [List.map_eq_nil_iff, List.filter_eq_nil_iff]
        intro q hq
        simp [hf q hq]
      rw [he]
      simp only [v_var, v_c, v_g2, v_gN, v_op, v_B, v_chain, v_and, v_or, v_not, v_andV, v_orV, v_notV, v_if, v_nil, v_cons, v_tup, v_lst, v_call, v_fn, v_next, v_seq, v_break, v_contS, v_drop, v_ret, v_retN, v_retOwn, v_retOwnN, v_ifS, v_never, v_asg, v_gname, v_gnil, v_gcons, v_gtup, v_is1, v_is2, v_tru, v_noPart, v_part, v_cut, v_dnew, v_fdnew, v_flst, v_flstRg, v_span, v_rg1, v_rg2, v_frep, v_fdict, v_asgF, v_append, v_extend, v_popAt, v_pop, v_augIx, v_for, v_while, v_any, v_range1, v_range2, v_zip, v_enumT, v_enum, v_vals, v_items, v_yes, v_lc, v_lcOwn, v_lc2, v_all, v_dc, v_dcOwn, v_par, v_parF, v_par3F, v_par3L, v_inN, v_dget, v_dput, v_daug, v_rel, opt_some, opt_none, opt_ite, opt_map, isD_d, isB_b, isI_i, isL_l, isT'_t, isDict_d, isDV_d, dat1_d, dat2_d, vget_d, vget_row, vget_own, vget_oN, ownL_o, ownN_o, look_nil, look_zero, look_succ, cont_d, cont_vw, rd_d', rd_own', dd_d', dd_oN', startD, List.map_cons, List.map_nil, List.length_cons, List.length_nil, List.replicate, List.cons_append, List.nil_append, List.append_nil, List.set_cons_zero, List.set_cons_succ, List.set_nil, hide, wipeD, noOwn, datas, conts, rds, Nat.reduceAdd, Nat.reduceSub, List.all_cons, List.all_nil, DV.isOwn, fAdd, fInt, fSub, fFDiv, fMod, fMul, fIs, fIsNot, fIx, fCut, isT, cLen, cTuple, cList, cSum, cMax, cMin, cInt, cStr, truD, seqD, zipOf, isNone, fAddI, Bool.not_true, Bool.not_false, Bool.and_true, Bool.true_and, Bool.and_false, Bool.false_and, Bool.or_true, Bool.true_or, Bool.or_false, Bool.false_or, if_true, if_false, Bool.false_eq_true, ite_true, ite_false, reduceCtorEq, Tw.fEq_i, Tw.fNe_i, Tw.fIn_i, Tw.fIn_iC, Tw.fIn_iL, Tw.fNotIn_iC, Tw.fIn_P, Tw.fNotIn_P, Tw.fNotIn_C, Tw.fLt_C, Tw.fLt_i, Tw.fGt_i, Tw.fLe_i, Tw.fGe_i, Tw.atI_0, Tw.atI_1, Tw.atI_2, true_and, and_true, eq_self, decide_true]
      refine ⟨by rw [List.length_map]; omega, ?_⟩
      refine lcD_filter encP (fun q => !decide (q ∈ pairsC c)) (by omega) (fun q hq R Z => ?_) ?_
      · simp only [v_var, v_c, v_g2, v_gN, v_op, v_B, v_chain, v_and, v_or, v_not, v_andV, v_orV, v_notV, v_if, v_nil, v_cons, v_tup, v_lst, v_call, v_fn, v_next, v_seq, v_break, v_contS, v_drop, v_ret, v_retN, v_retOwn, v_retOwnN, v_ifS, v_never, v_asg, v_gname, v_gnil, v_gcons, v_gtup, v_is1, v_is2, v_tru, v_noPart, v_part, v_cut, v_dnew, v_fdnew, v_flst, v_flstRg, v_span, v_rg1, v_rg2, v_frep, v_fdict, v_asgF, v_append, v_extend, v_popAt, v_pop, v_augIx, v_for, v_while, v_any, v_range1, v_range2, v_zip, v_enumT, v_enum, v_vals, v_items, v_yes, v_lc, v_lcOwn, v_lc2, v_all, v_dc, v_dcOwn, v_par, v_parF, v_par3F, v_par3L, v_inN, v_dget, v_dput, v_daug, v_rel, opt_some, opt_none, opt_ite, opt_map, isD_d, isB_b, isI_i, isL_l, isT'_t, isDict_d, isDV_d, dat1_d, dat2_d, vget_d, vget_row, vget_own, vget_oN, ownL_o, ownN_o, look_nil, look_zero, look_succ, cont_d, cont_vw, rd_d', rd_own', dd_d', dd_oN', startD, List.map_cons, List.map_nil, List.length_cons, List.length_nil, List.replicate, List.cons_append, List.nil_append, List.append_nil, List.set_cons_zero, List.set_cons_succ, List.set_nil, hide, wipeD, noOwn, datas, conts, rds, Nat.reduceAdd, Nat.reduceSub, List.all_cons, List.all_nil, DV.isOwn, fAdd, fInt, fSub, fFDiv, fMod, fMul, fIs, fIsNot, fIx, fCut, isT, cLen, cTuple, cList, cSum, cMax, cMin, cInt, cStr, truD, seqD, zipOf, isNone, fAddI, Bool.not_true, Bool.not_false, Bool.and_true, Bool.true_and, Bool.and_false, Bool.false_and, Bool.or_true, Bool.true_or, Bool.or_false, Bool.false_or, if_true, if_false, Bool.false_eq_true, ite_true, ite_false, reduceCtorEq, Tw.fEq_i, Tw.fNe_i, Tw.fIn_i, Tw.fIn_iC, Tw.fIn_iL, Tw.fNotIn_iC, Tw.fIn_P, Tw.fNotIn_P, Tw.fNotIn_C, Tw.fLt_C, Tw.fLt_i, Tw.fGt_i, Tw.fLe_i, Tw.fGe_i, Tw.atI_0, Tw.atI_1, Tw.atI_2, true_and, and_true, eq_self, g__law_within]
        refine ⟨c, rfl, by omega, ?_⟩
        cases h : decide (q ∈ pairsC c) <;> rw [h] at Z <;> simpa using Z
      · obtain ⟨j1, j2, j3⟩ := begun_step hv i2 i1 i4 hf
        rw [freeN_snoc hv.asc]
        exact ⟨cs ++ [c], _, _, _, by rw [List.map_append]; rfl, j1, j3, j2, by simp; omega⟩
    · have he : ((pairsC c).filter fun q => !decide (q ∈ freeN n cs)).map encP ≠ [] := fun e => by
        rw [List.map_eq_nil_iff, List.filter_eq_nil_iff] at e
        exact hf fun q hq => by simpa using e q hq
      rw [decide_eq_false he]
      simp only [v_var, v_c, v_g2, v_gN, v_op, v_B, v_chain, v_and, v_or, v_not, v_andV, v_orV, v_notV, v_if, v_nil, v_cons, v_tup, v_lst, v_call, v_fn, v_next, v_seq, v_break, v_contS, v_drop, v_ret, v_retN, v_retOwn, v_retOwnN, v_ifS, v_never, v_asg, v_gname, v_gnil, v_gcons, v_gtup, v_is1, v_is2, v_tru, v_noPart, v_part, v_cut, v_dnew, v_fdnew, v_flst, v_flstRg, v_span, v_rg1, v_rg2, v_frep, v_fdict, v_asgF, v_append, v_extend, v_popAt, v_pop, v_augIx, v_for, v_while, v_any, v_range1, v_range2, v_zip, v_enumT, v_enum, v_vals, v_items, v_yes, v_lc, v_lcOwn, v_lc2, v_all, v_dc, v_dcOwn, v_par, v_parF, v_par3F, v_par3L, v_inN, v_dget, v_dput, v_daug, v_rel, opt_some, opt_none, opt_ite, opt_map, isD_d, isB_b, isI_i, isL_l, isT'_t, isDict_d, isDV_d, dat1_d, dat2_d, vget_d, vget_row, vget_own, vget_oN, ownL_o, ownN_o, look_nil, look_zero, look_succ, cont_d, cont_vw, rd_d', rd_own', dd_d', dd_oN', startD, List.map_cons, List.map_nil, List.length_cons, List.length_nil, List.replicate, List.cons_append, List.nil_append, List.append_nil, List.set_cons_zero, List.set_cons_succ, List.set_nil, hide, wipeD, noOwn, datas, conts, rds, Nat.reduceAdd, Nat.reduceSub, List.all_cons, List.all_nil, DV.isOwn, fAdd, fInt, fSub, fFDiv, fMod, fMul, fIs, fIsNot, fIx, fCut, isT, cLen, cTuple, cList, cSum, cMax, cMin, cInt, cStr, truD, seqD, zipOf, isNone, fAddI, Bool.not_true, Bool.not_false, Bool.and_true, Bool.true_and, Bool.and_false, Bool.false_and, Bool.or_true, Bool.true_or, Bool.or_false, Bool.false_or, if_true, if_false, Bool.false_eq_true, ite_true, ite_false, reduceCtorEq, Tw.fEq_i, Tw.fNe_i, Tw.fIn_i, Tw.fIn_iC, Tw.fIn_iL, Tw.fNotIn_iC, Tw.fIn_P, Tw.fNotIn_P, Tw.fNotIn_C, Tw.fLt_C, Tw.fLt_i, Tw.fGt_i, Tw.fLe_i, Tw.fGe_i, Tw.atI_0, Tw.atI_1, Tw.atI_2, true_and, and_true, eq_self]
      exact ⟨cs, _, _, _, rfl, i1, i2, i4, by omega⟩
  · subst hδ
    rw [ir_length] at i3
    simp only [v_var, v_c, v_g2, v_gN, v_op, v_B, v_chain, v_and, v_or, v_not, v_andV, v_orV, v_notV, v_if, v_nil, v_cons, v_tup, v_lst, v_call, v_fn, v_next, v_seq, v_break, v_contS, v_drop, v_ret, v_retN, v_retOwn, v_retOwnN, v_ifS, v_never, v_asg, v_gname, v_gnil, v_gcons, v_gtup, v_is1, v_is2, v_tru, v_noPart, v_part, v_cut, v_dnew, v_fdnew, v_flst, v_flstRg, v_span, v_rg1, v_rg2, v_frep, v_fdict, v_asgF, v_append, v_extend, v_popAt, v_pop, v_augIx, v_for, v_while, v_any, v_range1, v_range2, v_zip, v_enumT, v_enum, v_vals, v_items, v_yes, v_lc, v_lcOwn, v_lc2, v_all, v_dc, v_dcOwn, v_par, v_parF, v_par3F, v_par3L, v_inN, v_dget, v_dput, v_daug, v_rel, opt_some, opt_none, opt_ite, opt_map, isD_d, isB_b, isI_i, isL_l, isT'_t, isDict_d, isDV_d, dat1_d, dat2_d, vget_d, vget_row, vget_own, vget_oN, ownL_o, ownN_o, look_nil, look_zero, look_succ, cont_d, cont_vw, rd_d', rd_own', dd_d', dd_oN', startD, List.map_cons, List.map_nil, List.length_cons, List.length_nil, List.replicate, List.cons_append, List.nil_append, List.append_nil, List.set_cons_zero, List.set_cons_succ, List.set_nil, hide, wipeD, noOwn, datas, conts, rds, Nat.reduceAdd, Nat.reduceSub, List.all_cons, List.all_nil, DV.isOwn, fAdd, fInt, fSub, fFDiv, fMod, fMul, fIs, fIsNot, fIx, fCut, isT, cLen, cTuple, cList, cSum, cMax, cMin, cInt, cStr, truD, seqD, zipOf, isNone, fAddI, Bool.not_true, Bool.not_false, Bool.and_true, Bool.true_and, Bool.and_false, Bool.false_and, Bool.or_true, Bool.true_or, Bool.or_false, Bool.false_or, if_true, if_false, Bool.false_eq_true, ite_true, ite_false, reduceCtorEq, Tw.fEq_i, Tw.fNe_i, Tw.fIn_i, Tw.fIn_iC, Tw.fIn_iL, Tw.fNotIn_iC, Tw.fIn_P, Tw.fNotIn_P, Tw.fNotIn_C, Tw.fLt_C, Tw.fLt_i, Tw.fGt_i, Tw.fLe_i, Tw.fGe_i, Tw.atI_0, Tw.atI_1, Tw.atI_2, true_and, and_true, eq_self, cSorted_C (club_ne i2)]
    refine ⟨two_size, h3 n (srtC cs) (by omega) (town_srt (by omega) (by omega) i2 i1 (by omega)) (by rw [srtC_len]; omega) i4.srt⟩
abbrev s__law_called : Stmt := topS 26
theorem sc__law_called : FnScope ["row", "town", "names", "one", "club"] ["row", "town"] (defScope s__law_called) := ⟨rfl, rfl, rfl, by decide +kernel, rfl, by decide +kernel, by decide +kernel⟩
theorem ok__law_called {c : Addr} (F : FunC K mg "_law_called" s__law_called c) (Tx : Txt mg) (c__law_turn : Cal P w K mg base T 2 "_law_turn" ["row", "halls"] (g__law_turn)) : Cal P w K mg base T 3 "_law_called" ["row", "town"] g__law_called := by
  have nd := sc__law_called.nd
  refine cal_of (P := P) (w := w) (K := K) (mg := mg) (base := base) (T := T) F sc__law_called (fun ds QD XD h => by unfold g__law_called at h; split at h <;> first | rfl | exact h.elim) _ (fun _ _ _ _ _ _ us hl => match us, hl with | [_, _], _ => rfl) (fun f A outer s H E XD B => (psd_cons (psd_set (i := 2) nd rfl (by first | exact .inl rfl | exact .inr rfl) (pd_callC c__law_turn (B.room.mono (by first | decide | exact Nat.le_refl _)) B.pass (pad_cons (pd_var (pv 0)) (pad_cons (pd_ix ix_D (pd_var (pv 1)) pd_int (fun _ _ => rfl)) pad_nil))))
    (psd_one (psd_ret (pd_tup (pad_cons (pd_ix ix_D (pd_var (pv 1)) pd_int (fun _ _ => rfl)) (pad_cons (pd_callTy (call_tupleD) (by rfl) Tx.tuple bt_tuple (pad_cons (pd_callB (call_sortedD (B.room.u100)) (by rfl) Tx.sorted bt_sorted (pad_cons (pd_lc (own := [("club", 4)]) rfl nd (pid_any (pd_ix ix_D (pd_var (pv 1)) pd_int (fun _ _ => rfl))) (blkOk_by (by first | rfl | kernel_rfl)) (fun s H C cl fp => (pgd_name (pg_name (i := 4) nd rfl (by first | exact .inl rfl | exact .inr rfl)))) (fun s H C cl fp => ptsd_nil) (fun s H C cl fp => (pd_callTy (call_tupleD) (by rfl) Tx.tuple bt_tuple (pad_cons (pd_callB (call_sortedD (B.room.u100)) (by rfl) Tx.sorted bt_sorted (pad_cons (pd_lc (own := [("one", 3)]) rfl nd (pid_any (pd_var (pv 4))) (blkOk_by (by first | rfl | kernel_rfl)) (fun s H C cl fp => (pgd_name (pg_name (i := 3) nd rfl (by first | exact .inl rfl | exact .inr rfl)))) (fun s H C cl fp => ptsd_nil) (fun s H C cl fp => (pd_ix ix_D (pd_var (pv 2)) (pd_var (pv 3)) (fun _ _ => rfl)))) pad_nil)) pad_nil)))) pad_nil)) pad_nil)) pad_nil))))))) ?_
  intro ds QD XD h
  unfold g__law_called at h
  split at h
  case h_2 => exact h.elim

  rename_i v
  obtain ⟨n, cs, rfl, h1, h2⟩ := h
  simp only [v_var, v_c, v_g2, v_gN, v_op, v_B, v_chain, v_and, v_or, v_not, v_andV, v_orV, v_notV, v_if, v_nil, v_cons, v_tup, v_lst, v_call, v_fn, v_next, v_seq, v_break, v_contS, v_drop, v_ret, v_retN, v_retOwn, v_retOwnN, v_ifS, v_never, v_asg, v_gname, v_gnil, v_gcons, v_gtup, v_is1, v_is2, v_tru, v_noPart, v_part, v_cut, v_dnew, v_fdnew, v_flst, v_flstRg, v_span, v_rg1, v_rg2, v_frep, v_fdict, v_asgF, v_append, v_extend, v_popAt, v_pop, v_augIx, v_for, v_while, v_any, v_range1, v_range2, v_zip, v_enumT, v_enum, v_vals, v_items, v_yes, v_lc, v_lcOwn, v_lc2, v_all, v_dc, v_dcOwn, v_par, v_parF, v_par3F, v_par3L, v_inN, v_dget, v_dput, v_daug, v_rel, opt_some, opt_none, opt_ite, opt_map, isD_d, isB_b, isI_i, isL_l, isT'_t, isDict_d, isDV_d, dat1_d, dat2_d, vget_d, vget_row, vget_own, vget_oN, ownL_o, ownN_o, look_nil, look_zero, look_succ, cont_d, cont_vw, rd_d', rd_own', dd_d', dd_oN', startD, List.map_cons, List.map_nil, List.length_cons, List.length_nil, List.replicate, List.cons_append, List.nil_append, List.append_nil, List.set_cons_zero, List.set_cons_succ, List.set_nil, hide, wipeD, noOwn, datas, conts, rds, Nat.reduceAdd, Nat.reduceSub, List.all_cons, List.all_nil, DV.isOwn, fAdd, fInt, fSub, fFDiv, fMod, fMul, fIs, fIsNot, fIx, fCut, isT, cLen, cTuple, cList, cSum, cMax, cMin, cInt, cStr, truD, seqD, zipOf, isNone, fAddI, Bool.not_true, Bool.not_false, Bool.and_true, Bool.true_and, Bool.and_false, Bool.false_and, Bool.or_true, Bool.true_or, Bool.or_false, Bool.false_or, if_true, if_false, Bool.false_eq_true, ite_true, ite_false, reduceCtorEq, Tw.fEq_i, Tw.fNe_i, Tw.fIn_i, Tw.fIn_iC, Tw.fIn_iL, Tw.fNotIn_iC, Tw.fIn_P, Tw.fNotIn_P, Tw.fNotIn_C, Tw.fLt_C, Tw.fLt_i, Tw.fGt_i, Tw.fLe_i, Tw.fGe_i, Tw.atI_0, Tw.atI_1, Tw.atI_2, true_and, and_true, eq_self, g__law_turn]
  have hs := PySem.sizeLine_eq
  have hlo := h1.lo
  have hhi := h1.hi
  refine ⟨by omega, hhi, fun l hl => ?_⟩
  have F := names_of hl
  have hll : l.length = n.toNat := by rw [hl.length_eq, ir_length]; omega
  refine lcD_map encC (fun c => encC (callC (nameF l) c)) h1.z (fun c hc R Z => ?_) ?_
  · have hv := h1.clubs c hc
    simp only [v_var, v_c, v_g2, v_gN, v_op, v_B, v_chain, v_and, v_or, v_not, v_andV, v_orV, v_notV, v_if, v_nil, v_cons, v_tup, v_lst, v_call, v_fn, v_next, v_seq, v_break, v_contS, v_drop, v_ret, v_retN, v_retOwn, v_retOwnN, v_ifS, v_never, v_asg, v_gname, v_gnil, v_gcons, v_gtup, v_is1, v_is2, v_tru, v_noPart, v_part, v_cut, v_dnew, v_fdnew, v_flst, v_flstRg, v_span, v_rg1, v_rg2, v_frep, v_fdict, v_asgF, v_append, v_extend, v_popAt, v_pop, v_augIx, v_for, v_while, v_any, v_range1, v_range2, v_zip, v_enumT, v_enum, v_vals, v_items, v_yes, v_lc, v_lcOwn, v_lc2, v_all, v_dc, v_dcOwn, v_par, v_parF, v_par3F, v_par3L, v_inN, v_dget, v_dput, v_daug, v_rel, opt_some, opt_none, opt_ite, opt_map, isD_d, isB_b, isI_i, isL_l, isT'_t, isDict_d, isDV_d, dat1_d, dat2_d, vget_d, vget_row, vget_own, vget_oN, ownL_o, ownN_o, look_nil, look_zero, look_succ, cont_d, cont_vw, rd_d', rd_own', dd_d', dd_oN', startD, List.map_cons, List.map_nil, List.length_cons, List.length_nil, List.replicate, List.cons_append, List.nil_append, List.append_nil, List.set_cons_zero, List.set_cons_succ, List.set_nil, hide, wipeD, noOwn, datas, conts, rds, Nat.reduceAdd, Nat.reduceSub, List.all_cons, List.all_nil, DV.isOwn, fAdd, fInt, fSub, fFDiv, fMod, fMul, fIs, fIsNot, fIx, fCut, isT, cLen, cTuple, cList, cSum, cMax, cMin, cInt, cStr, truD, seqD, zipOf, isNone, fAddI, Bool.not_true, Bool.not_false, Bool.and_true, Bool.true_and, Bool.and_false, Bool.false_and, Bool.or_true, Bool.true_or, Bool.or_false, Bool.false_or, if_true, if_false, Bool.false_eq_true, ite_true, ite_false, reduceCtorEq, Tw.fEq_i, Tw.fNe_i, Tw.fIn_i, Tw.fIn_iC, Tw.fIn_iL, Tw.fNotIn_iC, Tw.fIn_P, Tw.fNotIn_P, Tw.fNotIn_C, Tw.fLt_C, Tw.fLt_i, Tw.fGt_i, Tw.fLe_i, Tw.fGe_i, Tw.atI_0, Tw.atI_1, Tw.atI_2, true_and, and_true, eq_self]
    refine lcD_map .int (fun x => .int (nameF l x)) (by have := hv.less; omega) (fun x hx R Z => ?_) ?_
    · have hxr := hv.ran x hx
      have hat : atI (l.map PyData.int) x = some (.int (nameF l x)) := by
        rw [atI_map]
        unfold atI nameF
        have hx2 : x.toNat < l.length := by omega
        rw [ixN_get hxr.1 (by omega), List.getD_eq_getElem?_getD]
        simp [hx2]
      simp only [v_var, v_c, v_g2, v_gN, v_op, v_B, v_chain, v_and, v_or, v_not, v_andV, v_orV, v_notV, v_if, v_nil, v_cons, v_tup, v_lst, v_call, v_fn, v_next, v_seq, v_break, v_contS, v_drop, v_ret, v_retN, v_retOwn, v_retOwnN, v_ifS, v_never, v_asg, v_gname, v_gnil, v_gcons, v_gtup, v_is1, v_is2, v_tru, v_noPart, v_part, v_cut, v_dnew, v_fdnew, v_flst, v_flstRg, v_span, v_rg1, v_rg2, v_frep, v_fdict, v_asgF, v_append, v_extend, v_popAt, v_pop, v_augIx, v_for, v_while, v_any, v_range1, v_range2, v_zip, v_enumT, v_enum, v_vals, v_items, v_yes, v_lc, v_lcOwn, v_lc2, v_all, v_dc, v_dcOwn, v_par, v_parF, v_par3F, v_par3L, v_inN, v_dget, v_dput, v_daug, v_rel, opt_some, opt_none, opt_ite, opt_map, isD_d, isB_b, isI_i, isL_l, isT'_t, isDict_d, isDV_d, dat1_d, dat2_d, vget_d, vget_row, vget_own, vget_oN, ownL_o, ownN_o, look_nil, look_zero, look_succ, cont_d, cont_vw, rd_d', rd_own', dd_d', dd_oN', startD, List.map_cons, List.map_nil, List.length_cons, List.length_nil, List.replicate, List.cons_append, List.nil_append, List.append_nil, List.set_cons_zero, List.set_cons_succ, List.set_nil, hide, wipeD, noOwn, datas, conts, rds, Nat.reduceAdd, Nat.reduceSub, List.all_cons, List.all_nil, DV.isOwn, fAdd, fInt, fSub, fFDiv, fMod, fMul, fIs, fIsNot, fIx, fCut, isT, cLen, cTuple, cList, cSum, cMax, cMin, cInt, cStr, truD, seqD, zipOf, isNone, fAddI, Bool.not_true, Bool.not_false, Bool.and_true, Bool.true_and, Bool.and_false, Bool.false_and, Bool.or_true, Bool.true_or, Bool.or_false, Bool.false_or, if_true, if_false, Bool.false_eq_true, ite_true, ite_false, reduceCtorEq, Tw.fEq_i, Tw.fNe_i, Tw.fIn_i, Tw.fIn_iC, Tw.fIn_iL, Tw.fNotIn_iC, Tw.fIn_P, Tw.fNotIn_P, Tw.fNotIn_C, Tw.fLt_C, Tw.fLt_i, Tw.fGt_i, Tw.fLe_i, Tw.fGe_i, Tw.atI_0, Tw.atI_1, Tw.atI_2, true_and, and_true, eq_self, hat]
      exact Z
    · have e : c.map (fun x => PyData.int (nameF l x)) = (c.map (nameF l)).map .int := by rw [List.map_map]; rfl
      rw [e, cSorted_I]
      simp only [v_var, v_c, v_g2, v_gN, v_op, v_B, v_chain, v_and, v_or, v_not, v_andV, v_orV, v_notV, v_if, v_nil, v_cons, v_tup, v_lst, v_call, v_fn, v_next, v_seq, v_break, v_contS, v_drop, v_ret, v_retN, v_retOwn, v_retOwnN, v_ifS, v_never, v_asg, v_gname, v_gnil, v_gcons, v_gtup, v_is1, v_is2, v_tru, v_noPart, v_part, v_cut, v_dnew, v_fdnew, v_flst, v_flstRg, v_span, v_rg1, v_rg2, v_frep, v_fdict, v_asgF, v_append, v_extend, v_popAt, v_pop, v_augIx, v_for, v_while, v_any, v_range1, v_range2, v_zip, v_enumT, v_enum, v_vals, v_items, v_yes, v_lc, v_lcOwn, v_lc2, v_all, v_dc, v_dcOwn, v_par, v_parF, v_par3F, v_par3L, v_inN, v_dget, v_dput, v_daug, v_rel, opt_some, opt_none, opt_ite, opt_map, isD_d, isB_b, isI_i, isL_l, isT'_t, isDict_d, isDV_d, dat1_d, dat2_d, vget_d, vget_row, vget_own, vget_oN, ownL_o, ownN_o, look_nil, look_zero, look_succ, cont_d, cont_vw, rd_d', rd_own', dd_d', dd_oN', startD, List.map_cons, List.map_nil, List.length_cons, List.length_nil, List.replicate, List.cons_append, List.nil_append, List.append_nil, List.set_cons_zero, List.set_cons_succ, List.set_nil, hide, wipeD, noOwn, datas, conts, rds, Nat.reduceAdd, Nat.reduceSub, List.all_cons, List.all_nil, DV.isOwn, fAdd, fInt, fSub, fFDiv, fMod, fMul, fIs, fIsNot, fIx, fCut, isT, cLen, cTuple, cList, cSum, cMax, cMin, cInt, cStr, truD, seqD, zipOf, isNone, fAddI, Bool.not_true, Bool.not_false, Bool.and_true, Bool.true_and, Bool.and_false, Bool.false_and, Bool.or_true, Bool.true_or, Bool.or_false, Bool.false_or, if_true, if_false, Bool.false_eq_true, ite_true, ite_false, reduceCtorEq, Tw.fEq_i, Tw.fNe_i, Tw.fIn_i, Tw.fIn_iC, Tw.fIn_iL, Tw.fNotIn_iC, Tw.fIn_P, Tw.fNotIn_P, Tw.fNotIn_C, Tw.fLt_C, Tw.fLt_i, Tw.fGt_i, Tw.fLe_i, Tw.fGe_i, Tw.atI_0, Tw.atI_1, Tw.atI_2, true_and, and_true, eq_self]
      exact Z
  · have e : cs.map (fun c => encC (callC (nameF l) c)) = (cs.map (callC (nameF l))).map encC := by rw [List.map_map]; rfl
    rw [e, cSorted_C (club_ne fun c hc => by
      obtain ⟨d, hd, rfl⟩ := List.mem_map.mp hc
      exact F.club (h1.clubs d hd))]
    simp only [v_var, v_c, v_g2, v_gN, v_op, v_B, v_chain, v_and, v_or, v_not, v_andV, v_orV, v_notV, v_if, v_nil, v_cons, v_tup, v_lst, v_call, v_fn, v_next, v_seq, v_break, v_contS, v_drop, v_ret, v_retN, v_retOwn, v_retOwnN, v_ifS, v_never, v_asg, v_gname, v_gnil, v_gcons, v_gtup, v_is1, v_is2, v_tru, v_noPart, v_part, v_cut, v_dnew, v_fdnew, v_flst, v_flstRg, v_span, v_rg1, v_rg2, v_frep, v_fdict, v_asgF, v_append, v_extend, v_popAt, v_pop, v_augIx, v_for, v_while, v_any, v_range1, v_range2, v_zip, v_enumT, v_enum, v_vals, v_items, v_yes, v_lc, v_lcOwn, v_lc2, v_all, v_dc, v_dcOwn, v_par, v_parF, v_par3F, v_par3L, v_inN, v_dget, v_dput, v_daug, v_rel, opt_some, opt_none, opt_ite, opt_map, isD_d, isB_b, isI_i, isL_l, isT'_t, isDict_d, isDV_d, dat1_d, dat2_d, vget_d, vget_row, vget_own, vget_oN, ownL_o, ownN_o, look_nil, look_zero, look_succ, cont_d, cont_vw, rd_d', rd_own', dd_d', dd_oN', startD, List.map_cons, List.map_nil, List.length_cons, List.length_nil, List.replicate, List.cons_append, List.nil_append, List.append_nil, List.set_cons_zero, List.set_cons_succ, List.set_nil, hide, wipeD, noOwn, datas, conts, rds, Nat.reduceAdd, Nat.reduceSub, List.all_cons, List.all_nil, DV.isOwn, fAdd, fInt, fSub, fFDiv, fMod, fMul, fIs, fIsNot, fIx, fCut, isT, cLen, cTuple, cList, cSum, cMax, cMin, cInt, cStr, truD, seqD, zipOf, isNone, fAddI, Bool.not_true, Bool.not_false, Bool.and_true, Bool.true_and, Bool.and_false, Bool.false_and, Bool.or_true, Bool.true_or, Bool.or_false, Bool.false_or, if_true, if_false, Bool.false_eq_true, ite_true, ite_false, reduceCtorEq, Tw.fEq_i, Tw.fNe_i, Tw.fIn_i, Tw.fIn_iC, Tw.fIn_iL, Tw.fNotIn_iC, Tw.fIn_P, Tw.fNotIn_P, Tw.fNotIn_C, Tw.fLt_C, Tw.fLt_i, Tw.fGt_i, Tw.fLe_i, Tw.fGe_i, Tw.atI_0, Tw.atI_1, Tw.atI_2, true_and, and_true, eq_self]
    exact ⟨two_size, h2 _ F⟩
end
end K4
namespace K4
open PySem PySem.Spec L2 DL Tw
def pencilL (n : Int) : List (List Int) := (ir 0 (n - 1)).map (fun a => [a, n - 1]) ++ [ir 0 (n - 1)]
def g__law_pencil : Gf := fun ds QD _ => match ds with
  | [.d (.int n)] => 3 ≤ n ∧ n ≤ 31 ∧ QD (encT n (srtC (pencilL n)))
  | _ => False
abbrev T3 := Int × Int × Int
def enc3 (s : T3) : PyData := .tuple [.int s.1, .int s.2.1, .int s.2.2]
def onB (a b : T3) (p : Int) : Bool := decide ((a.1 * b.1 + a.2.1 * b.2.1 + a.2.2 * b.2.2) % p = 0)
def g__law_on : Gf := fun ds QD _ => match ds with
  | [.d (.tuple [.int a0, .int a1, .int a2]), .d (.tuple [.int b0, .int b1, .int b2]), .d (.int p)] => 0 < p ∧ (0 ≤ a0 ∧ a0 < 32 ∧ 0 ≤ a1 ∧ a1 < 32 ∧ 0 ≤ a2 ∧ a2 < 32) ∧ QD (.bool (onB (a0, a1, a2) (b0, b1, b2) p))
  | _ => False
def spotOf (p k : Int) : T3 := (k / (p * p), k / p % p, k % p)
def leadB (s : T3) : Bool := match [s.1, s.2.1, s.2.2].filter (fun x => decide (0 < x)) with
  | [] => false
  | x :: _ => decide (x = 1)
def spotsP (p : Int) : List T3 := ((ir 0 (p * p * p)).map (spotOf p)).filter leadB
def planeL (p : Int) : List (List Int) := (spotsP p).map fun l => (ir 0 ((spotsP p).length : Int)).filter fun k => onB l ((spotsP p).getD k.toNat (0, 0, 0)) p
def g__law_plane : Gf := fun ds QD _ => match ds with
  | [.d (.int p)] => (p = 2 ∨ p = 3) ∧ QD (encT (spotsP p).length (srtC (planeL p)))
  | _ => False
theorem pencil_club {n : Int} (h : 3 ≤ n) {c : List Int} (hc : c ∈ pencilL n) : ClubV n c := by
  unfold pencilL at hc
  rw [List.mem_append] at hc
  rcases hc with hc | hc
  · obtain ⟨a, ha, rfl⟩ := List.mem_map.mp hc
    have := mem_ir.mp ha
    refine ⟨by simp, by simp; omega, fun x hx => ?_, by simp; omega⟩
    simp at hx
    omega
  · simp at hc
    subst hc
    refine ⟨by rw [ir_length]; omega, by rw [ir_length]; omega, fun x hx => by have := mem_ir.mp hx; omega, ir_asc _ _⟩
theorem pencil_nodup (n : Int) : (pencilL n).Nodup := by
  unfold pencilL
  refine nodup_snoc (nodup_map (fun a b e => by simpa using e) (ir_nodup _ _)) fun h => ?_
  obtain ⟨a, ha, e⟩ := List.mem_map.mp h
  have : n - 1 ∈ ir 0 (n - 1) := by rw [← e]; simp
  have := mem_ir.mp this
  omega
theorem pencil_len {n : Int} (h : n ≤ 31) : (pencilL n).length ≤ 31 := by
  unfold pencilL
  simp [ir_length]
  omega
theorem pencil_town {n : Int} (h : 3 ≤ n) (h2 : n ≤ 31) : TownS n (srtC (pencilL n)) :=
  town_srt h h2 (fun c hc => pencil_club h hc) (pencil_nodup n) (Nat.le_trans (pencil_len h2) (by decide))
theorem pencil_pairs {n : Int} (h : 3 ≤ n) : PairT n (srtC (pencilL n)) := by
  refine PairT.srt fun a b h0 hab hb => ?_
  unfold pencilL
  rw [both_app, both_one]
  unfold both
  rw [List.countP_map]
  by_cases e : b = n - 1
  · subst e
    rw [if_neg (fun q => by have := mem_ir.mp q.2; omega)]
    have : (ir 0 (n - 1)).countP ((fun c => decide (a ∈ c) && decide (n - 1 ∈ c)) ∘ fun a => [a, n - 1]) = (ir 0 (n - 1)).count a := by
      rw [List.count_eq_countP]
      refine List.countP_congr fun x hx => ?_
      simp
      omega
    rw [this, (ir_nodup _ _).count, if_pos (mem_ir.mpr ⟨h0, hab⟩)]
  · rw [if_pos ⟨mem_ir.mpr ⟨h0, by omega⟩, mem_ir.mpr ⟨by omega, by omega⟩⟩]
    have : (ir 0 (n - 1)).countP ((fun c => decide (a ∈ c) && decide (b ∈ c)) ∘ fun a => [a, n - 1]) = 0 := by
      rw [List.countP_eq_zero]
      intro x hx
      have := mem_ir.mp hx
      simp
      omega
    rw [this]
def clubOk (n : Int) (c : List Int) : Bool := decide (2 ≤ c.length) && decide ((c.length : Int) < n) && c.all (fun x => decide (0 ≤ x) && decide (x < n)) && decide (c.Pairwise (· < ·))
theorem clubOk_v {n : Int} {c : List Int} (h : clubOk n c = true) : ClubV n c := by
  simp only [clubOk, Bool.and_eq_true, decide_eq_true_eq, List.all_eq_true] at h
  exact ⟨h.1.1.1, h.1.1.2, h.1.2, h.2⟩
def pairOkB (n : Int) (cs : List (List Int)) : Bool := (pairsN n).all fun p => decide (both cs p.1 p.2 = 1)
theorem pairOk_v {n : Int} {cs : List (List Int)} (h : pairOkB n cs = true) : PairT n cs := fun a b h0 hab hb => by
  rw [pairOkB, List.all_eq_true] at h
  exact of_decide_eq_true (h (a, b) (mem_pairsN.mpr ⟨h0, hab, hb⟩))
theorem plane2 : (spotsP 2).length = 7 ∧ (planeL 2).all (clubOk 7) = true ∧ (planeL 2).Nodup ∧ pairOkB 7 (planeL 2) = true ∧ (planeL 2).length = 7 := by decide +kernel
theorem plane3 : (spotsP 3).length = 13 ∧ (planeL 3).all (clubOk 13) = true ∧ (planeL 3).Nodup ∧ pairOkB 13 (planeL 3) = true ∧ (planeL 3).length = 13 := by decide +kernel
theorem plane2_town : TownS 7 (srtC (planeL 2)) ∧ PairT 7 (srtC (planeL 2)) :=
  ⟨town_srt (by decide) (by decide) (fun c hc => clubOk_v (List.all_eq_true.mp plane2.2.1 c hc)) plane2.2.2.1 (by rw [plane2.2.2.2.2]; decide), (pairOk_v plane2.2.2.2.1).srt⟩
theorem plane3_town : TownS 13 (srtC (planeL 3)) ∧ PairT 13 (srtC (planeL 3)) :=
  ⟨town_srt (by decide) (by decide) (fun c hc => clubOk_v (List.all_eq_true.mp plane3.2.1 c hc)) plane3.2.2.1 (by rw [plane3.2.2.2.2]; decide), (pairOk_v plane3.2.2.2.1).srt⟩
theorem spots_ran {p : Int} (hp : p = 2 ∨ p = 3) {s : T3} (h : s ∈ spotsP p) : 0 ≤ s.1 ∧ s.1 < 32 ∧ 0 ≤ s.2.1 ∧ s.2.1 < 32 ∧ 0 ≤ s.2.2 ∧ s.2.2 < 32 := by
  unfold spotsP at h
  obtain ⟨h1, _⟩ := List.mem_filter.mp h
  obtain ⟨k, hk, rfl⟩ := List.mem_map.mp h1
  have := mem_ir.mp hk
  rcases hp with rfl | rfl <;> simp only [spotOf] at * <;> omega
theorem spots_len {p : Int} (hp : p = 2 ∨ p = 3) : (spotsP p).length ≤ 13 := by
  rcases hp with rfl | rfl
  · rw [plane2.1]; decide
  · rw [plane3.1]; decide
theorem cSorted_P {p : Int} (hp : p = 2 ∨ p = 3) : cSorted [.list ((planeL p).map encC)] = some (.list ((srtC (planeL p)).map encC)) := by
  rcases hp with rfl | rfl
  · exact cSorted_C (club_ne (n := 7) fun c hc => clubOk_v (List.all_eq_true.mp plane2.2.1 c hc))
  · exact cSorted_C (club_ne (n := 13) fun c hc => clubOk_v (List.all_eq_true.mp plane3.2.1 c hc))
def g__law_pair_town : Gf := fun ds QD _ => match ds with
  | [.row, .d (.int m)] => 3 ≤ m ∧ m ≤ 12 ∧ ∀ n cs, (n ≤ m ∨ n ≤ 7) → TownS n cs → PairT n cs → QD (encT n cs)
  | _ => False
section
variable {P : Program} {w : World} {K : PySem.W.Frag} {mg : Str → Option Value} {base : Heap} {T : List Addr}
abbrev s__law_pencil : Stmt := topS 27
theorem sc__law_pencil : FnScope ["people", "clubs", "one"] ["people"] (defScope s__law_pencil) := ⟨rfl, rfl, rfl, by decide +kernel, rfl, by decide +kernel, by decide +kernel⟩
theorem ok__law_pencil {c : Addr} (F : FunC K mg "_law_pencil" s__law_pencil c) (Tx : Txt mg)  : Cal P w K mg base T 2 "_law_pencil" ["people"] g__law_pencil := by
  have nd := sc__law_pencil.nd
  refine cal_of (P := P) (w := w) (K := K) (mg := mg) (base := base) (T := T) F sc__law_pencil (fun ds QD XD h => by unfold g__law_pencil at h; split at h <;> first | rfl | exact h.elim) _ (fun _ _ _ _ _ _ us hl => match us, hl with | [_], _ => rfl) (fun f A outer s H E XD B => (psd_cons (psd_set (i := 1) nd rfl (by first | exact .inl rfl | exact .inr rfl) (pd_op op_addD (pd_lc (own := [("one", 2)]) rfl nd (pid_range1 (by rfl) Tx.range (pad_cons (pd_op op_subD (pd_var (pv 0)) pd_int) pad_nil)) (blkOk_by (by first | rfl | kernel_rfl)) (fun s H C cl fp => (pgd_name (pg_name (i := 2) nd rfl (by first | exact .inl rfl | exact .inr rfl)))) (fun s H C cl fp => ptsd_nil) (fun s H C cl fp => (pd_tup (pad_cons (pd_var (pv 2)) (pad_cons (pd_op op_subD (pd_var (pv 0)) pd_int) pad_nil))))) (pd_ifExp (ptd_cmp (op_gtD (B.room.u64)) (pd_var (pv 0)) pd_int (by rfl)) (pd_lst (pad_cons (pd_tupleRg rfl (by rfl) Tx.tuple (prgd_1 (by rfl) Tx.range (pd_op op_subD (pd_var (pv 0)) pd_int))) pad_nil)) (pd_lst pad_nil))))
    (psd_one (psd_ret (pd_tup (pad_cons (pd_var (pv 0)) (pad_cons (pd_callTy (call_tupleD) (by rfl) Tx.tuple bt_tuple (pad_cons (pd_callB (call_sortedD (B.room.u100)) (by rfl) Tx.sorted bt_sorted (pad_cons (pd_var (pv 1)) pad_nil)) pad_nil)) pad_nil))))))) ?_
  intro ds QD XD h
  unfold g__law_pencil at h
  split at h
  case h_2 => exact h.elim

  rename_i n
  obtain ⟨h1, h2, h3⟩ := h
  simp only [v_var, v_c, v_g2, v_gN, v_op, v_B, v_chain, v_and, v_or, v_not, v_andV, v_orV, v_notV, v_if, v_nil, v_cons, v_tup, v_lst, v_call, v_fn, v_next, v_seq, v_break, v_contS, v_drop, v_ret, v_retN, v_retOwn, v_retOwnN, v_ifS, v_never, v_asg, v_gname, v_gnil, v_gcons, v_gtup, v_is1, v_is2, v_tru, v_noPart, v_part, v_cut, v_dnew, v_fdnew, v_flst, v_flstRg, v_span, v_rg1, v_rg2, v_frep, v_fdict, v_asgF, v_append, v_extend, v_popAt, v_pop, v_augIx, v_for, v_while, v_any, v_range1, v_range2, v_zip, v_enumT, v_enum, v_vals, v_items, v_yes, v_lc, v_lcOwn, v_lc2, v_all, v_dc, v_dcOwn, v_par, v_parF, v_par3F, v_par3L, v_inN, v_dget, v_dput, v_daug, v_rel, opt_some, opt_none, opt_ite, opt_map, isD_d, isB_b, isI_i, isL_l, isT'_t, isDict_d, isDV_d, dat1_d, dat2_d, vget_d, vget_row, vget_own, vget_oN, ownL_o, ownN_o, look_nil, look_zero, look_succ, cont_d, cont_vw, rd_d', rd_own', dd_d', dd_oN', startD, List.map_cons, List.map_nil, List.length_cons, List.length_nil, List.replicate, List.cons_append, List.nil_append, List.append_nil, List.set_cons_zero, List.set_cons_succ, List.set_nil, hide, wipeD, noOwn, datas, conts, rds, Nat.reduceAdd, Nat.reduceSub, List.all_cons, List.all_nil, DV.isOwn, fAdd, fInt, fSub, fFDiv, fMod, fMul, fIs, fIsNot, fIx, fCut, isT, cLen, cTuple, cList, cSum, cMax, cMin, cInt, cStr, truD, seqD, zipOf, isNone, fAddI, Bool.not_true, Bool.not_false, Bool.and_true, Bool.true_and, Bool.and_false, Bool.false_and, Bool.or_true, Bool.true_or, Bool.or_false, Bool.false_or, if_true, if_false, Bool.false_eq_true, ite_true, ite_false, reduceCtorEq, Tw.fEq_i, Tw.fNe_i, Tw.fIn_i, Tw.fIn_iC, Tw.fIn_iL, Tw.fNotIn_iC, Tw.fIn_P, Tw.fNotIn_P, Tw.fNotIn_C, Tw.fLt_C, Tw.fLt_i, Tw.fGt_i, Tw.fLe_i, Tw.fGe_i, Tw.atI_0, Tw.atI_1, Tw.atI_2, true_and, and_true, eq_self]
  have hs := PySem.sizeLine_eq
  refine ⟨by omega, by omega, ?_⟩
  rw [rng0_ir]
  refine lcD_map .int (fun a => encC [a, n - 1]) (by rw [ir_length]; omega) (fun x hx R Z => ?_) ?_
  · simp only [v_var, v_c, v_g2, v_gN, v_op, v_B, v_chain, v_and, v_or, v_not, v_andV, v_orV, v_notV, v_if, v_nil, v_cons, v_tup, v_lst, v_call, v_fn, v_next, v_seq, v_break, v_contS, v_drop, v_ret, v_retN, v_retOwn, v_retOwnN, v_ifS, v_never, v_asg, v_gname, v_gnil, v_gcons, v_gtup, v_is1, v_is2, v_tru, v_noPart, v_part, v_cut, v_dnew, v_fdnew, v_flst, v_flstRg, v_span, v_rg1, v_rg2, v_frep, v_fdict, v_asgF, v_append, v_extend, v_popAt, v_pop, v_augIx, v_for, v_while, v_any, v_range1, v_range2, v_zip, v_enumT, v_enum, v_vals, v_items, v_yes, v_lc, v_lcOwn, v_lc2, v_all, v_dc, v_dcOwn, v_par, v_parF, v_par3F, v_par3L, v_inN, v_dget, v_dput, v_daug, v_rel, opt_some, opt_none, opt_ite, opt_map, isD_d, isB_b, isI_i, isL_l, isT'_t, isDict_d, isDV_d, dat1_d, dat2_d, vget_d, vget_row, vget_own, vget_oN, ownL_o, ownN_o, look_nil, look_zero, look_succ, cont_d, cont_vw, rd_d', rd_own', dd_d', dd_oN', startD, List.map_cons, List.map_nil, List.length_cons, List.length_nil, List.replicate, List.cons_append, List.nil_append, List.append_nil, List.set_cons_zero, List.set_cons_succ, List.set_nil, hide, wipeD, noOwn, datas, conts, rds, Nat.reduceAdd, Nat.reduceSub, List.all_cons, List.all_nil, DV.isOwn, fAdd, fInt, fSub, fFDiv, fMod, fMul, fIs, fIsNot, fIx, fCut, isT, cLen, cTuple, cList, cSum, cMax, cMin, cInt, cStr, truD, seqD, zipOf, isNone, fAddI, Bool.not_true, Bool.not_false, Bool.and_true, Bool.true_and, Bool.and_false, Bool.false_and, Bool.or_true, Bool.true_or, Bool.or_false, Bool.false_or, if_true, if_false, Bool.false_eq_true, ite_true, ite_false, reduceCtorEq, Tw.fEq_i, Tw.fNe_i, Tw.fIn_i, Tw.fIn_iC, Tw.fIn_iL, Tw.fNotIn_iC, Tw.fIn_P, Tw.fNotIn_P, Tw.fNotIn_C, Tw.fLt_C, Tw.fLt_i, Tw.fGt_i, Tw.fLe_i, Tw.fGe_i, Tw.atI_0, Tw.atI_1, Tw.atI_2, true_and, and_true, eq_self]
    exact ⟨two_size, Z⟩
  · rw [if_pos (decide_eq_true (by omega)), show n - 1 - 0 = n - 1 by omega, rng0_ir]
    have e : (ir 0 (n - 1)).map (fun a => encC [a, n - 1]) ++ [PyData.tuple ((ir 0 (n - 1)).map .int)] = (pencilL n).map encC := by
      unfold pencilL
      rw [List.map_append, List.map_map]; rfl
    rw [e, cSorted_C (club_ne fun c hc => pencil_club h1 hc)]
    simp only [v_var, v_c, v_g2, v_gN, v_op, v_B, v_chain, v_and, v_or, v_not, v_andV, v_orV, v_notV, v_if, v_nil, v_cons, v_tup, v_lst, v_call, v_fn, v_next, v_seq, v_break, v_contS, v_drop, v_ret, v_retN, v_retOwn, v_retOwnN, v_ifS, v_never, v_asg, v_gname, v_gnil, v_gcons, v_gtup, v_is1, v_is2, v_tru, v_noPart, v_part, v_cut, v_dnew, v_fdnew, v_flst, v_flstRg, v_span, v_rg1, v_rg2, v_frep, v_fdict, v_asgF, v_append, v_extend, v_popAt, v_pop, v_augIx, v_for, v_while, v_any, v_range1, v_range2, v_zip, v_enumT, v_enum, v_vals, v_items, v_yes, v_lc, v_lcOwn, v_lc2, v_all, v_dc, v_dcOwn, v_par, v_parF, v_par3F, v_par3L, v_inN, v_dget, v_dput, v_daug, v_rel, opt_some, opt_none, opt_ite, opt_map, isD_d, isB_b, isI_i, isL_l, isT'_t, isDict_d, isDV_d, dat1_d, dat2_d, vget_d, vget_row, vget_own, vget_oN, ownL_o, ownN_o, look_nil, look_zero, look_succ, cont_d, cont_vw, rd_d', rd_own', dd_d', dd_oN', startD, List.map_cons, List.map_nil, List.length_cons, List.length_nil, List.replicate, List.cons_append, List.nil_append, List.append_nil, List.set_cons_zero, List.set_cons_succ, List.set_nil, hide, wipeD, noOwn, datas, conts, rds, Nat.reduceAdd, Nat.reduceSub, List.all_cons, List.all_nil, DV.isOwn, fAdd, fInt, fSub, fFDiv, fMod, fMul, fIs, fIsNot, fIx, fCut, isT, cLen, cTuple, cList, cSum, cMax, cMin, cInt, cStr, truD, seqD, zipOf, isNone, fAddI, Bool.not_true, Bool.not_false, Bool.and_true, Bool.true_and, Bool.and_false, Bool.false_and, Bool.or_true, Bool.true_or, Bool.or_false, Bool.false_or, if_true, if_false, Bool.false_eq_true, ite_true, ite_false, reduceCtorEq, Tw.fEq_i, Tw.fNe_i, Tw.fIn_i, Tw.fIn_iC, Tw.fIn_iL, Tw.fNotIn_iC, Tw.fIn_P, Tw.fNotIn_P, Tw.fNotIn_C, Tw.fLt_C, Tw.fLt_i, Tw.fGt_i, Tw.fLe_i, Tw.fGe_i, Tw.atI_0, Tw.atI_1, Tw.atI_2, true_and, and_true, eq_self]
    refine ⟨⟨by omega, by omega, by omega, by omega, by omega⟩, by omega, ?_, two_size, h3⟩
    rw [List.length_map, ir_length]
    omega
abbrev s__law_on : Stmt := topS 30
theorem sc__law_on : FnScope ["line", "spot", "prime"] ["line", "spot", "prime"] (defScope s__law_on) := ⟨rfl, rfl, rfl, by decide +kernel, rfl, by decide +kernel, by decide +kernel⟩
theorem ok__law_on {c : Addr} (F : FunC K mg "_law_on" s__law_on c) (Tx : Txt mg)  : Cal P w K mg base T 2 "_law_on" ["line", "spot", "prime"] g__law_on := by
  have nd := sc__law_on.nd
  refine cal_of (P := P) (w := w) (K := K) (mg := mg) (base := base) (T := T) F sc__law_on (fun ds QD XD h => by unfold g__law_on at h; split at h <;> first | rfl | exact h.elim) _ (fun _ _ _ _ _ _ us hl => match us, hl with | [_, _, _], _ => rfl) (fun f A outer s H E XD B => (psd_one (psd_ret (pd_cmp (op_eqDD (B.room.u64)) (pd_op op_modD (pd_op op_addD (pd_op op_addD (pd_op op_mulD (pd_ix ix_D (pd_var (pv 0)) pd_int (fun _ _ => rfl)) (pd_ix ix_D (pd_var (pv 1)) pd_int (fun _ _ => rfl))) (pd_op op_mulD (pd_ix ix_D (pd_var (pv 0)) pd_int (fun _ _ => rfl)) (pd_ix ix_D (pd_var (pv 1)) pd_int (fun _ _ => rfl)))) (pd_op op_mulD (pd_ix ix_D (pd_var (pv 0)) pd_int (fun _ _ => rfl)) (pd_ix ix_D (pd_var (pv 1)) pd_int (fun _ _ => rfl)))) (pd_var (pv 2))) pd_int (by rfl))))) ?_
  intro ds QD XD h
  unfold g__law_on at h
  split at h
  case h_2 => exact h.elim

  rename_i a0 a1 a2 b0 b1 b2 p
  obtain ⟨h1, h2, h3⟩ := h
  simp only [v_var, v_c, v_g2, v_gN, v_op, v_B, v_chain, v_and, v_or, v_not, v_andV, v_orV, v_notV, v_if, v_nil, v_cons, v_tup, v_lst, v_call, v_fn, v_next, v_seq, v_break, v_contS, v_drop, v_ret, v_retN, v_retOwn, v_retOwnN, v_ifS, v_never, v_asg, v_gname, v_gnil, v_gcons, v_gtup, v_is1, v_is2, v_tru, v_noPart, v_part, v_cut, v_dnew, v_fdnew, v_flst, v_flstRg, v_span, v_rg1, v_rg2, v_frep, v_fdict, v_asgF, v_append, v_extend, v_popAt, v_pop, v_augIx, v_for, v_while, v_any, v_range1, v_range2, v_zip, v_enumT, v_enum, v_vals, v_items, v_yes, v_lc, v_lcOwn, v_lc2, v_all, v_dc, v_dcOwn, v_par, v_parF, v_par3F, v_par3L, v_inN, v_dget, v_dput, v_daug, v_rel, opt_some, opt_none, opt_ite, opt_map, isD_d, isB_b, isI_i, isL_l, isT'_t, isDict_d, isDV_d, dat1_d, dat2_d, vget_d, vget_row, vget_own, vget_oN, ownL_o, ownN_o, look_nil, look_zero, look_succ, cont_d, cont_vw, rd_d', rd_own', dd_d', dd_oN', startD, List.map_cons, List.map_nil, List.length_cons, List.length_nil, List.replicate, List.cons_append, List.nil_append, List.append_nil, List.set_cons_zero, List.set_cons_succ, List.set_nil, hide, wipeD, noOwn, datas, conts, rds, Nat.reduceAdd, Nat.reduceSub, List.all_cons, List.all_nil, DV.isOwn, fAdd, fInt, fSub, fFDiv, fMod, fMul, fIs, fIsNot, fIx, fCut, isT, cLen, cTuple, cList, cSum, cMax, cMin, cInt, cStr, truD, seqD, zipOf, isNone, fAddI, Bool.not_true, Bool.not_false, Bool.and_true, Bool.true_and, Bool.and_false, Bool.false_and, Bool.or_true, Bool.true_or, Bool.or_false, Bool.false_or, if_true, if_false, Bool.false_eq_true, ite_true, ite_false, reduceCtorEq, Tw.fEq_i, Tw.fNe_i, Tw.fIn_i, Tw.fIn_iC, Tw.fIn_iL, Tw.fNotIn_iC, Tw.fIn_P, Tw.fNotIn_P, Tw.fNotIn_C, Tw.fLt_C, Tw.fLt_i, Tw.fGt_i, Tw.fLe_i, Tw.fGe_i, Tw.atI_0, Tw.atI_1, Tw.atI_2, true_and, and_true, eq_self]
  have hc : ∀ a b : Int, 0 ≤ a → a < 32 → cMul a b = true := fun a b h0 h1 => by
    simp only [cMul, decide_eq_true_eq]
    exact .inl ⟨by omega, by omega⟩
  exact ⟨hc _ _ h2.1 h2.2.1, hc _ _ h2.2.2.1 h2.2.2.2.1, hc _ _ h2.2.2.2.2.1 h2.2.2.2.2.2, decide_eq_true h1, h3⟩
abbrev s__law_plane : Stmt := topS 28
theorem sc__law_plane : FnScope ["prime", "spots", "number", "spot", "lead", "one", "clubs", "line", "k"] ["prime"] (defScope s__law_plane) := ⟨rfl, rfl, rfl, by decide +kernel, rfl, by decide +kernel, by decide +kernel⟩
theorem ok__law_plane {c : Addr} (F : FunC K mg "_law_plane" s__law_plane c) (Tx : Txt mg) (c__law_on : Cal P w K mg base T 2 "_law_on" ["line", "spot", "prime"] (g__law_on)) : Cal P w K mg base T 3 "_law_plane" ["prime"] g__law_plane := by
  have nd := sc__law_plane.nd
  refine cal_of (P := P) (w := w) (K := K) (mg := mg) (base := base) (T := T) F sc__law_plane (fun ds QD XD h => by unfold g__law_plane at h; split at h <;> first | rfl | exact h.elim) _ (fun _ _ _ _ _ _ us hl => match us, hl with | [_], _ => rfl) (fun f A outer s H E XD B => (psd_cons (psd_set (i := 1) nd rfl (by first | exact .inl rfl | exact .inr rfl) (pd_lst pad_nil))
    (psd_cons (psd_for (vs := [2]) B.own rfl (pid_range1 (by rfl) Tx.range (pad_cons (pd_op op_mulD (pd_op op_mulD (pd_var (pv 0)) (pd_var (pv 0))) (pd_var (pv 0))) pad_nil)) (pgd_name (pg_name (i := 2) nd rfl (by first | exact .inl rfl | exact .inr rfl)))
    (psd_cons (psd_set (i := 3) nd rfl (by first | exact .inl rfl | exact .inr rfl) (pd_tup (pad_cons (pd_op op_fdivD (pd_var (pv 2)) (pd_op op_mulD (pd_var (pv 0)) (pd_var (pv 0)))) (pad_cons (pd_op op_modD (pd_op op_fdivD (pd_var (pv 2)) (pd_var (pv 0))) (pd_var (pv 0))) (pad_cons (pd_op op_modD (pd_var (pv 2)) (pd_var (pv 0))) pad_nil)))))
    (psd_cons (psd_setLc (i := 4) (own := [("one", 5)]) rfl nd rfl rfl (sw_true rfl rfl rfl (by decide +kernel)) (pid_any (pd_var (pv 3))) (blkOk_by (by first | rfl | kernel_rfl)) (fun s H C cl fp => (pgd_name (pg_name (i := 5) nd rfl (by first | exact .inl rfl | exact .inr rfl)))) (fun s H C cl fp => (ptsd_one (ptd_cmp (op_gtD (B.room.u64)) (pd_var (pv 5)) pd_int (by rfl)))) (fun s H C cl fp => (pd_var (pv 5))))
    (psd_one (psd_set (i := 1) nd rfl (by first | exact .inl rfl | exact .inr rfl) (pd_op op_addD (pd_var (pv 1)) (pd_ifExp (PWD.pt (pwd_and (ptd_cmp (op_neDD (B.room.u64)) (pd_var (pv 4)) (pd_lst pad_nil) (by rfl)) (pwd_and1 (ptd_cmp (op_eqDD (B.room.u64)) (pd_ix ix_D (pd_var (pv 4)) pd_int (fun _ _ => rfl)) pd_int (by rfl))))) (pd_lst (pad_cons (pd_var (pv 3)) pad_nil)) (pd_lst pad_nil))))))))
    (psd_cons (psd_setF (i := 6) nd rfl (by first | exact .inl rfl | exact .inr rfl) (pf_lst pad_nil))
    (psd_cons (psd_for (vs := [7]) B.own rfl (pid_any (pd_var (pv 1))) (pgd_name (pg_name (i := 7) nd rfl (by first | exact .inl rfl | exact .inr rfl)))
    (psd_one (psd_append (pv 6) (pd_callTy (call_tupleD) (by rfl) Tx.tuple bt_tuple (pad_cons (pd_lc (own := [("k", 8)]) rfl nd (pid_range1 (by rfl) Tx.range (pad_cons (pd_callB (call_lenD) (by rfl) Tx.len bt_len (pad_cons (pd_var (pv 1)) pad_nil)) pad_nil)) (blkOk_by (by first | rfl | kernel_rfl)) (fun s H C cl fp => (pgd_name (pg_name (i := 8) nd rfl (by first | exact .inl rfl | exact .inr rfl)))) (fun s H C cl fp => (ptsd_one (ptd_val (pd_callC c__law_on (B.room.mono (by first | decide | exact Nat.le_refl _)) passL (pad_cons (pd_var (pv 7)) (pad_cons (pd_ix ix_D (pd_var (pv 1)) (pd_var (pv 8)) (fun _ _ => rfl)) (pad_cons (pd_var (pv 0)) pad_nil))))))) (fun s H C cl fp => (pd_var (pv 8)))) pad_nil)))))
    (psd_one (psd_ret (pd_tup (pad_cons (pd_callB (call_lenD) (by rfl) Tx.len bt_len (pad_cons (pd_var (pv 1)) pad_nil)) (pad_cons (pd_callTy (call_tupleD) (by rfl) Tx.tuple bt_tuple (pad_cons (pd_callB (call_sortedD (B.room.u100)) (by rfl) Tx.sorted bt_sorted (pad_cons (pd_var (pv 6)) pad_nil)) pad_nil)) pad_nil)))))))))) ?_
  intro ds QD XD h
  unfold g__law_plane at h
  split at h
  case h_2 => exact h.elim

  rename_i p
  obtain ⟨hp, h3⟩ := h
  simp only [v_var, v_c, v_g2, v_gN, v_op, v_B, v_chain, v_and, v_or, v_not, v_andV, v_orV, v_notV, v_if, v_nil, v_cons, v_tup, v_lst, v_call, v_fn, v_next, v_seq, v_break, v_contS, v_drop, v_ret, v_retN, v_retOwn, v_retOwnN, v_ifS, v_never, v_asg, v_gname, v_gnil, v_gcons, v_gtup, v_is1, v_is2, v_tru, v_noPart, v_part, v_cut, v_dnew, v_fdnew, v_flst, v_flstRg, v_span, v_rg1, v_rg2, v_frep, v_fdict, v_asgF, v_append, v_extend, v_popAt, v_pop, v_augIx, v_for, v_while, v_any, v_range1, v_range2, v_zip, v_enumT, v_enum, v_vals, v_items, v_yes, v_lc, v_lcOwn, v_lc2, v_all, v_dc, v_dcOwn, v_par, v_parF, v_par3F, v_par3L, v_inN, v_dget, v_dput, v_daug, v_rel, opt_some, opt_none, opt_ite, opt_map, isD_d, isB_b, isI_i, isL_l, isT'_t, isDict_d, isDV_d, dat1_d, dat2_d, vget_d, vget_row, vget_own, vget_oN, ownL_o, ownN_o, look_nil, look_zero, look_succ, cont_d, cont_vw, rd_d', rd_own', dd_d', dd_oN', startD, List.map_cons, List.map_nil, List.length_cons, List.length_nil, List.replicate, List.cons_append, List.nil_append, List.append_nil, List.set_cons_zero, List.set_cons_succ, List.set_nil, hide, wipeD, noOwn, datas, conts, rds, Nat.reduceAdd, Nat.reduceSub, List.all_cons, List.all_nil, DV.isOwn, fAdd, fInt, fSub, fFDiv, fMod, fMul, fIs, fIsNot, fIx, fCut, isT, cLen, cTuple, cList, cSum, cMax, cMin, cInt, cStr, truD, seqD, zipOf, isNone, fAddI, Bool.not_true, Bool.not_false, Bool.and_true, Bool.true_and, Bool.and_false, Bool.false_and, Bool.or_true, Bool.true_or, Bool.or_false, Bool.false_or, if_true, if_false, Bool.false_eq_true, ite_true, ite_false, reduceCtorEq, Tw.fEq_i, Tw.fNe_i, Tw.fIn_i, Tw.fIn_iC, Tw.fIn_iL, Tw.fNotIn_iC, Tw.fIn_P, Tw.fNotIn_P, Tw.fNotIn_C, Tw.fLt_C, Tw.fLt_i, Tw.fGt_i, Tw.fLe_i, Tw.fGe_i, Tw.atI_0, Tw.atI_1, Tw.atI_2, true_and, and_true, eq_self, g__law_on]
  have hs := PySem.sizeLine_eq
  have hl := spots_len hp
  have hp1 : 0 < p := by omega
  have hpp : 0 < p * p ∧ p * p < 1073741824 ∧ p < 1073741824 := by rcases hp with rfl | rfl <;> decide
  refine ⟨by omega, by rcases hp with rfl | rfl <;> decide, by rcases hp with rfl | rfl <;> decide, by rcases hp with rfl | rfl <;> decide, by rcases hp with rfl | rfl <;> decide, ?_⟩
  rw [rng0_ir]
  refine forD_fold .int (fun L δ => ∃ a b c d e f g, δ = [some (.d (.int p)), some (.d (.list (L.map enc3))), a, b, c, d, e, f, g]) (fun L k => L ++ [spotOf p k].filter leadB) [] ⟨none, none, none, none, none, none, none, rfl⟩ (fun k x δ R hk ⟨a, b, c, d, e, f, g, hδ⟩ hR => ?_) (fun δ ⟨a, b, c, d, e, f, g, hδ⟩ => ?_)
  · subst hδ
    have hx := mem_ir.mp (List.mem_of_getElem? hk)
    have hlen : ((List.map enc3 (((ir 0 (p * p * p)).take k).foldl (fun L k => L ++ [spotOf p k].filter leadB) []))).length + 1 ≤ sizeLine := by
      rw [foldl_app (fun k => [spotOf p k].filter leadB) _ [], List.nil_append, List.length_map]
      have h1 := len_flatMap_le (fun k => [spotOf p k].filter leadB) 1 ((ir 0 (p * p * p)).take k) (fun y _ => List.length_filter_le _ _)
      have h2 : ((ir 0 (p * p * p)).take k).length ≤ 27 := by
        rw [List.length_take, ir_length]
        rcases hp with rfl | rfl <;> omega
      omega
    have hcm : cMul p p = true := by rcases hp with rfl | rfl <;> decide
    simp only [v_var, v_c, v_g2, v_gN, v_op, v_B, v_chain, v_and, v_or, v_not, v_andV, v_orV, v_notV, v_if, v_nil, v_cons, v_tup, v_lst, v_call, v_fn, v_next, v_seq, v_break, v_contS, v_drop, v_ret, v_retN, v_retOwn, v_retOwnN, v_ifS, v_never, v_asg, v_gname, v_gnil, v_gcons, v_gtup, v_is1, v_is2, v_tru, v_noPart, v_part, v_cut, v_dnew, v_fdnew, v_flst, v_flstRg, v_span, v_rg1, v_rg2, v_frep, v_fdict, v_asgF, v_append, v_extend, v_popAt, v_pop, v_augIx, v_for, v_while, v_any, v_range1, v_range2, v_zip, v_enumT, v_enum, v_vals, v_items, v_yes, v_lc, v_lcOwn, v_lc2, v_all, v_dc, v_dcOwn, v_par, v_parF, v_par3F, v_par3L, v_inN, v_dget, v_dput, v_daug, v_rel, opt_some, opt_none, opt_ite, opt_map, isD_d, isB_b, isI_i, isL_l, isT'_t, isDict_d, isDV_d, dat1_d, dat2_d, vget_d, vget_row, vget_own, vget_oN, ownL_o, ownN_o, look_nil, look_zero, look_succ, cont_d, cont_vw, rd_d', rd_own', dd_d', dd_oN', startD, List.map_cons, List.map_nil, List.length_cons, List.length_nil, List.replicate, List.cons_append, List.nil_append, List.append_nil, List.set_cons_zero, List.set_cons_succ, List.set_nil, hide, wipeD, noOwn, datas, conts, rds, Nat.reduceAdd, Nat.reduceSub, List.all_cons, List.all_nil, DV.isOwn, fAdd, fInt, fSub, fFDiv, fMod, fMul, fIs, fIsNot, fIx, fCut, isT, cLen, cTuple, cList, cSum, cMax, cMin, cInt, cStr, truD, seqD, zipOf, isNone, fAddI, Bool.not_true, Bool.not_false, Bool.and_true, Bool.true_and, Bool.and_false, Bool.false_and, Bool.or_true, Bool.true_or, Bool.or_false, Bool.false_or, if_true, if_false, Bool.false_eq_true, ite_true, ite_false, reduceCtorEq, Tw.fEq_i, Tw.fNe_i, Tw.fIn_i, Tw.fIn_iC, Tw.fIn_iL, Tw.fNotIn_iC, Tw.fIn_P, Tw.fNotIn_P, Tw.fNotIn_C, Tw.fLt_C, Tw.fLt_i, Tw.fGt_i, Tw.fLe_i, Tw.fGe_i, Tw.atI_0, Tw.atI_1, Tw.atI_2, true_and, and_true, eq_self, hcm]
    refine ⟨decide_eq_true ⟨hpp.1, hpp.2.1⟩, decide_eq_true ⟨hp1, hpp.2.2⟩, decide_eq_true hp1, decide_eq_true hp1, by omega, ?_⟩
    have hsx : ∀ L : List Int, L = [(spotOf p x).1, (spotOf p x).2.1, (spotOf p x).2.2].filter (fun y => decide (0 < y)) → leadB (spotOf p x) = (match L with | [] => false | y :: _ => decide (y = 1)) := fun L h => by
      rw [h]; rfl
    refine lcD_filter (l := [x / (p * p), x / p % p, x % p]) .int (fun y => decide (0 < y)) (by simp; omega) (fun y hy R Z => ?_) ?_
    · simp only [v_var, v_c, v_g2, v_gN, v_op, v_B, v_chain, v_and, v_or, v_not, v_andV, v_orV, v_notV, v_if, v_nil, v_cons, v_tup, v_lst, v_call, v_fn, v_next, v_seq, v_break, v_contS, v_drop, v_ret, v_retN, v_retOwn, v_retOwnN, v_ifS, v_never, v_asg, v_gname, v_gnil, v_gcons, v_gtup, v_is1, v_is2, v_tru, v_noPart, v_part, v_cut, v_dnew, v_fdnew, v_flst, v_flstRg, v_span, v_rg1, v_rg2, v_frep, v_fdict, v_asgF, v_append, v_extend, v_popAt, v_pop, v_augIx, v_for, v_while, v_any, v_range1, v_range2, v_zip, v_enumT, v_enum, v_vals, v_items, v_yes, v_lc, v_lcOwn, v_lc2, v_all, v_dc, v_dcOwn, v_par, v_parF, v_par3F, v_par3L, v_inN, v_dget, v_dput, v_daug, v_rel, opt_some, opt_none, opt_ite, opt_map, isD_d, isB_b, isI_i, isL_l, isT'_t, isDict_d, isDV_d, dat1_d, dat2_d, vget_d, vget_row, vget_own, vget_oN, ownL_o, ownN_o, look_nil, look_zero, look_succ, cont_d, cont_vw, rd_d', rd_own', dd_d', dd_oN', startD, List.map_cons, List.map_nil, List.length_cons, List.length_nil, List.replicate, List.cons_append, List.nil_append, List.append_nil, List.set_cons_zero, List.set_cons_succ, List.set_nil, hide, wipeD, noOwn, datas, conts, rds, Nat.reduceAdd, Nat.reduceSub, List.all_cons, List.all_nil, DV.isOwn, fAdd, fInt, fSub, fFDiv, fMod, fMul, fIs, fIsNot, fIx, fCut, isT, cLen, cTuple, cList, cSum, cMax, cMin, cInt, cStr, truD, seqD, zipOf, isNone, fAddI, Bool.not_true, Bool.not_false, Bool.and_true, Bool.true_and, Bool.and_false, Bool.false_and, Bool.or_true, Bool.true_or, Bool.or_false, Bool.false_or, if_true, if_false, Bool.false_eq_true, ite_true, ite_false, reduceCtorEq, Tw.fEq_i, Tw.fNe_i, Tw.fIn_i, Tw.fIn_iC, Tw.fIn_iL, Tw.fNotIn_iC, Tw.fIn_P, Tw.fNotIn_P, Tw.fNotIn_C, Tw.fLt_C, Tw.fLt_i, Tw.fGt_i, Tw.fLe_i, Tw.fGe_i, Tw.atI_0, Tw.atI_1, Tw.atI_2, true_and, and_true, eq_self]
      cases h : decide (0 < y) <;> rw [h] at Z <;> simpa using Z
    generalize hL : [x / (p * p), x / p % p, x % p].filter (fun y => decide (0 < y)) = L
    have hb := hsx L hL.symm
    refine ⟨by omega, ?_⟩
    rw [fNe_nil (sh_ints (l := L)) (by decide), opt_some]
    cases L with
    | nil =>
      simp only [List.map_nil, decide_true, Bool.not_true]
      simp only [v_var, v_c, v_g2, v_gN, v_op, v_B, v_chain, v_and, v_or, v_not, v_andV, v_orV, v_notV, v_if, v_nil, v_cons, v_tup, v_lst, v_call, v_fn, v_next, v_seq, v_break, v_contS, v_drop, v_ret, v_retN, v_retOwn, v_retOwnN, v_ifS, v_never, v_asg, v_gname, v_gnil, v_gcons, v_gtup, v_is1, v_is2, v_tru, v_noPart, v_part, v_cut, v_dnew, v_fdnew, v_flst, v_flstRg, v_span, v_rg1, v_rg2, v_frep, v_fdict, v_asgF, v_append, v_extend, v_popAt, v_pop, v_augIx, v_for, v_while, v_any, v_range1, v_range2, v_zip, v_enumT, v_enum, v_vals, v_items, v_yes, v_lc, v_lcOwn, v_lc2, v_all, v_dc, v_dcOwn, v_par, v_parF, v_par3F, v_par3L, v_inN, v_dget, v_dput, v_daug, v_rel, opt_some, opt_none, opt_ite, opt_map, isD_d, isB_b, isI_i, isL_l, isT'_t, isDict_d, isDV_d, dat1_d, dat2_d, vget_d, vget_row, vget_own, vget_oN, ownL_o, ownN_o, look_nil, look_zero, look_succ, cont_d, cont_vw, rd_d', rd_own', dd_d', dd_oN', startD, List.map_cons, List.map_nil, List.length_cons, List.length_nil, List.replicate, List.cons_append, List.nil_append, List.append_nil, List.set_cons_zero, List.set_cons_succ, List.set_nil, hide, wipeD, noOwn, datas, conts, rds, Nat.reduceAdd, Nat.reduceSub, List.all_cons, List.all_nil, DV.isOwn, fAdd, fInt, fSub, fFDiv, fMod, fMul, fIs, fIsNot, fIx, fCut, isT, cLen, cTuple, cList, cSum, cMax, cMin, cInt, cStr, truD, seqD, zipOf, isNone, fAddI, Bool.not_true, Bool.not_false, Bool.and_true, Bool.true_and, Bool.and_false, Bool.false_and, Bool.or_true, Bool.true_or, Bool.or_false, Bool.false_or, if_true, if_false, Bool.false_eq_true, ite_true, ite_false, reduceCtorEq, Tw.fEq_i, Tw.fNe_i, Tw.fIn_i, Tw.fIn_iC, Tw.fIn_iL, Tw.fNotIn_iC, Tw.fIn_P, Tw.fNotIn_P, Tw.fNotIn_C, Tw.fLt_C, Tw.fLt_i, Tw.fGt_i, Tw.fLe_i, Tw.fGe_i, Tw.atI_0, Tw.atI_1, Tw.atI_2, true_and, and_true, eq_self]
      have e : [spotOf p x].filter leadB = [] := by rw [List.filter_cons, hb]; rfl
      rw [foldl_step hk, e, List.append_nil] at hR
      exact ⟨by omega, by omega, hR _ ⟨_, _, _, _, _, _, _, rfl⟩⟩
    | cons y L =>
      simp only [List.map_cons, reduceCtorEq, decide_false, Bool.not_false]
      simp only [v_var, v_c, v_g2, v_gN, v_op, v_B, v_chain, v_and, v_or, v_not, v_andV, v_orV, v_notV, v_if, v_nil, v_cons, v_tup, v_lst, v_call, v_fn, v_next, v_seq, v_break, v_contS, v_drop, v_ret, v_retN, v_retOwn, v_retOwnN, v_ifS, v_never, v_asg, v_gname, v_gnil, v_gcons, v_gtup, v_is1, v_is2, v_tru, v_noPart, v_part, v_cut, v_dnew, v_fdnew, v_flst, v_flstRg, v_span, v_rg1, v_rg2, v_frep, v_fdict, v_asgF, v_append, v_extend, v_popAt, v_pop, v_augIx, v_for, v_while, v_any, v_range1, v_range2, v_zip, v_enumT, v_enum, v_vals, v_items, v_yes, v_lc, v_lcOwn, v_lc2, v_all, v_dc, v_dcOwn, v_par, v_parF, v_par3F, v_par3L, v_inN, v_dget, v_dput, v_daug, v_rel, opt_some, opt_none, opt_ite, opt_map, isD_d, isB_b, isI_i, isL_l, isT'_t, isDict_d, isDV_d, dat1_d, dat2_d, vget_d, vget_row, vget_own, vget_oN, ownL_o, ownN_o, look_nil, look_zero, look_succ, cont_d, cont_vw, rd_d', rd_own', dd_d', dd_oN', startD, List.map_cons, List.map_nil, List.length_cons, List.length_nil, List.replicate, List.cons_append, List.nil_append, List.append_nil, List.set_cons_zero, List.set_cons_succ, List.set_nil, hide, wipeD, noOwn, datas, conts, rds, Nat.reduceAdd, Nat.reduceSub, List.all_cons, List.all_nil, DV.isOwn, fAdd, fInt, fSub, fFDiv, fMod, fMul, fIs, fIsNot, fIx, fCut, isT, cLen, cTuple, cList, cSum, cMax, cMin, cInt, cStr, truD, seqD, zipOf, isNone, fAddI, Bool.not_true, Bool.not_false, Bool.and_true, Bool.true_and, Bool.and_false, Bool.false_and, Bool.or_true, Bool.true_or, Bool.or_false, Bool.false_or, if_true, if_false, Bool.false_eq_true, ite_true, ite_false, reduceCtorEq, Tw.fEq_i, Tw.fNe_i, Tw.fIn_i, Tw.fIn_iC, Tw.fIn_iL, Tw.fNotIn_iC, Tw.fIn_P, Tw.fNotIn_P, Tw.fNotIn_C, Tw.fLt_C, Tw.fLt_i, Tw.fGt_i, Tw.fLe_i, Tw.fGe_i, Tw.atI_0, Tw.atI_1, Tw.atI_2, true_and, and_true, eq_self]
      cases hy : decide (y = 1) with
      | true =>
        simp only [if_true]
        have e : [spotOf p x].filter leadB = [spotOf p x] := by simp only [List.filter_cons, hb, hy, List.filter_nil, if_true]
        rw [foldl_step hk, e, List.map_append] at hR
        exact ⟨by omega, by omega, hR _ ⟨_, _, _, _, _, _, _, rfl⟩⟩
      | false =>
        simp only [Bool.false_eq_true, if_false]
        have e : [spotOf p x].filter leadB = [] := by simp only [List.filter_cons, hb, hy, List.filter_nil, Bool.false_eq_true, if_false]
        rw [foldl_step hk, e, List.append_nil] at hR
        exact ⟨by omega, by omega, hR _ ⟨_, _, _, _, _, _, _, rfl⟩⟩
  · subst hδ
    have e1 : (ir 0 (p * p * p)).foldl (fun L k => L ++ [spotOf p k].filter leadB) [] = spotsP p := by
      rw [foldl_app (fun k => [spotOf p k].filter leadB) _ [], List.nil_append]
      unfold spotsP
      generalize ir 0 (p * p * p) = l
      induction l with
      | nil => rfl
      | cons k l ih =>
        rw [List.flatMap_cons, ih, List.map_cons, List.filter_cons, List.filter_cons]
        cases leadB (spotOf p k) <;> rfl
    rw [e1]
    simp only [v_var, v_c, v_g2, v_gN, v_op, v_B, v_chain, v_and, v_or, v_not, v_andV, v_orV, v_notV, v_if, v_nil, v_cons, v_tup, v_lst, v_call, v_fn, v_next, v_seq, v_break, v_contS, v_drop, v_ret, v_retN, v_retOwn, v_retOwnN, v_ifS, v_never, v_asg, v_gname, v_gnil, v_gcons, v_gtup, v_is1, v_is2, v_tru, v_noPart, v_part, v_cut, v_dnew, v_fdnew, v_flst, v_flstRg, v_span, v_rg1, v_rg2, v_frep, v_fdict, v_asgF, v_append, v_extend, v_popAt, v_pop, v_augIx, v_for, v_while, v_any, v_range1, v_range2, v_zip, v_enumT, v_enum, v_vals, v_items, v_yes, v_lc, v_lcOwn, v_lc2, v_all, v_dc, v_dcOwn, v_par, v_parF, v_par3F, v_par3L, v_inN, v_dget, v_dput, v_daug, v_rel, opt_some, opt_none, opt_ite, opt_map, isD_d, isB_b, isI_i, isL_l, isT'_t, isDict_d, isDV_d, dat1_d, dat2_d, vget_d, vget_row, vget_own, vget_oN, ownL_o, ownN_o, look_nil, look_zero, look_succ, cont_d, cont_vw, rd_d', rd_own', dd_d', dd_oN', startD, List.map_cons, List.map_nil, List.length_cons, List.length_nil, List.replicate, List.cons_append, List.nil_append, List.append_nil, List.set_cons_zero, List.set_cons_succ, List.set_nil, hide, wipeD, noOwn, datas, conts, rds, Nat.reduceAdd, Nat.reduceSub, List.all_cons, List.all_nil, DV.isOwn, fAdd, fInt, fSub, fFDiv, fMod, fMul, fIs, fIsNot, fIx, fCut, isT, cLen, cTuple, cList, cSum, cMax, cMin, cInt, cStr, truD, seqD, zipOf, isNone, fAddI, Bool.not_true, Bool.not_false, Bool.and_true, Bool.true_and, Bool.and_false, Bool.false_and, Bool.or_true, Bool.true_or, Bool.or_false, Bool.false_or, if_true, if_false, Bool.false_eq_true, ite_true, ite_false, reduceCtorEq, Tw.fEq_i, Tw.fNe_i, Tw.fIn_i, Tw.fIn_iC, Tw.fIn_iL, Tw.fNotIn_iC, Tw.fIn_P, Tw.fNotIn_P, Tw.fNotIn_C, Tw.fLt_C, Tw.fLt_i, Tw.fGt_i, Tw.fLe_i, Tw.fGe_i, Tw.atI_0, Tw.atI_1, Tw.atI_2, true_and, and_true, eq_self]
    refine ⟨by omega, ?_⟩
    refine forD_ty enc3 (fun k δ => ∃ a b c d e f, δ = [some (.d (.int p)), some (.d (.list ((spotsP p).map enc3))), a, b, c, d, some (.own (((planeL p).take k).map encC)), e, f]) ⟨_, _, _, _, _, _, rfl⟩ (fun k s δ hk ⟨a, b, c, d, e, f, hδ⟩ => ?_) (fun δ ⟨a, b, c, d, e, f, hδ⟩ => ?_)
    · subst hδ
      have hsr := spots_ran hp (List.mem_of_getElem? hk)
      have hk2 : k < (spotsP p).length := (List.getElem?_eq_some_iff.mp hk).1
      simp only [v_var, v_c, v_g2, v_gN, v_op, v_B, v_chain, v_and, v_or, v_not, v_andV, v_orV, v_notV, v_if, v_nil, v_cons, v_tup, v_lst, v_call, v_fn, v_next, v_seq, v_break, v_contS, v_drop, v_ret, v_retN, v_retOwn, v_retOwnN, v_ifS, v_never, v_asg, v_gname, v_gnil, v_gcons, v_gtup, v_is1, v_is2, v_tru, v_noPart, v_part, v_cut, v_dnew, v_fdnew, v_flst, v_flstRg, v_span, v_rg1, v_rg2, v_frep, v_fdict, v_asgF, v_append, v_extend, v_popAt, v_pop, v_augIx, v_for, v_while, v_any, v_range1, v_range2, v_zip, v_enumT, v_enum, v_vals, v_items, v_yes, v_lc, v_lcOwn, v_lc2, v_all, v_dc, v_dcOwn, v_par, v_parF, v_par3F, v_par3L, v_inN, v_dget, v_dput, v_daug, v_rel, opt_some, opt_none, opt_ite, opt_map, isD_d, isB_b, isI_i, isL_l, isT'_t, isDict_d, isDV_d, dat1_d, dat2_d, vget_d, vget_row, vget_own, vget_oN, ownL_o, ownN_o, look_nil, look_zero, look_succ, cont_d, cont_vw, rd_d', rd_own', dd_d', dd_oN', startD, List.map_cons, List.map_nil, List.length_cons, List.length_nil, List.replicate, List.cons_append, List.nil_append, List.append_nil, List.set_cons_zero, List.set_cons_succ, List.set_nil, hide, wipeD, noOwn, datas, conts, rds, Nat.reduceAdd, Nat.reduceSub, List.all_cons, List.all_nil, DV.isOwn, fAdd, fInt, fSub, fFDiv, fMod, fMul, fIs, fIsNot, fIx, fCut, isT, cLen, cTuple, cList, cSum, cMax, cMin, cInt, cStr, truD, seqD, zipOf, isNone, fAddI, Bool.not_true, Bool.not_false, Bool.and_true, Bool.true_and, Bool.and_false, Bool.false_and, Bool.or_true, Bool.true_or, Bool.or_false, Bool.false_or, if_true, if_false, Bool.false_eq_true, ite_true, ite_false, reduceCtorEq, Tw.fEq_i, Tw.fNe_i, Tw.fIn_i, Tw.fIn_iC, Tw.fIn_iL, Tw.fNotIn_iC, Tw.fIn_P, Tw.fNotIn_P, Tw.fNotIn_C, Tw.fLt_C, Tw.fLt_i, Tw.fGt_i, Tw.fLe_i, Tw.fGe_i, Tw.atI_0, Tw.atI_1, Tw.atI_2, true_and, and_true, eq_self, List.length_map]
      refine ⟨by omega, by omega, ?_⟩
      rw [rng0_ir]
      refine lcD_filter .int (fun k => onB s ((spotsP p).getD k.toNat (0, 0, 0)) p) (by rw [ir_length]; omega) (fun y hy R Z => ?_) ?_
      · have hy' := mem_ir.mp hy
        have hat : atI ((spotsP p).map enc3) y = some (enc3 ((spotsP p).getD y.toNat (0, 0, 0))) := by
          rw [atI_map]
          unfold atI
          have hx2 : y.toNat < (spotsP p).length := by omega
          rw [ixN_get hy'.1 (by omega), List.getD_eq_getElem?_getD]
          simp [hx2]
        simp only [v_var, v_c, v_g2, v_gN, v_op, v_B, v_chain, v_and, v_or, v_not, v_andV, v_orV, v_notV, v_if, v_nil, v_cons, v_tup, v_lst, v_call, v_fn, v_next, v_seq, v_break, v_contS, v_drop, v_ret, v_retN, v_retOwn, v_retOwnN, v_ifS, v_never, v_asg, v_gname, v_gnil, v_gcons, v_gtup, v_is1, v_is2, v_tru, v_noPart, v_part, v_cut, v_dnew, v_fdnew, v_flst, v_flstRg, v_span, v_rg1, v_rg2, v_frep, v_fdict, v_asgF, v_append, v_extend, v_popAt, v_pop, v_augIx, v_for, v_while, v_any, v_range1, v_range2, v_zip, v_enumT, v_enum, v_vals, v_items, v_yes, v_lc, v_lcOwn, v_lc2, v_all, v_dc, v_dcOwn, v_par, v_parF, v_par3F, v_par3L, v_inN, v_dget, v_dput, v_daug, v_rel, opt_some, opt_none, opt_ite, opt_map, isD_d, isB_b, isI_i, isL_l, isT'_t, isDict_d, isDV_d, dat1_d, dat2_d, vget_d, vget_row, vget_own, vget_oN, ownL_o, ownN_o, look_nil, look_zero, look_succ, cont_d, cont_vw, rd_d', rd_own', dd_d', dd_oN', startD, List.map_cons, List.map_nil, List.length_cons, List.length_nil, List.replicate, List.cons_append, List.nil_append, List.append_nil, List.set_cons_zero, List.set_cons_succ, List.set_nil, hide, wipeD, noOwn, datas, conts, rds, Nat.reduceAdd, Nat.reduceSub, List.all_cons, List.all_nil, DV.isOwn, fAdd, fInt, fSub, fFDiv, fMod, fMul, fIs, fIsNot, fIx, fCut, isT, cLen, cTuple, cList, cSum, cMax, cMin, cInt, cStr, truD, seqD, zipOf, isNone, fAddI, Bool.not_true, Bool.not_false, Bool.and_true, Bool.true_and, Bool.and_false, Bool.false_and, Bool.or_true, Bool.true_or, Bool.or_false, Bool.false_or, if_true, if_false, Bool.false_eq_true, ite_true, ite_false, reduceCtorEq, Tw.fEq_i, Tw.fNe_i, Tw.fIn_i, Tw.fIn_iC, Tw.fIn_iL, Tw.fNotIn_iC, Tw.fIn_P, Tw.fNotIn_P, Tw.fNotIn_C, Tw.fLt_C, Tw.fLt_i, Tw.fGt_i, Tw.fLe_i, Tw.fGe_i, Tw.atI_0, Tw.atI_1, Tw.atI_2, true_and, and_true, eq_self, hat, enc3, g__law_on]
        refine ⟨hp1, hsr, ?_⟩
        cases h : onB s ((spotsP p).getD y.toNat (0, 0, 0)) p <;> rw [h] at Z <;> simpa [h] using Z
      · have ht : (planeL p).take (k + 1) = (planeL p).take k ++ [(ir 0 ((spotsP p).length : Int)).filter fun k => onB s ((spotsP p).getD k.toNat (0, 0, 0)) p] := by
          rw [List.take_add_one]
          unfold planeL
          rw [List.getElem?_map, hk]; rfl
        rw [ht, List.map_append]
        refine ⟨by rw [List.length_take]; omega, ?_⟩
        exact ⟨_, _, _, _, _, _, rfl⟩
    · subst hδ
      have ht : (planeL p).take (spotsP p).length = planeL p := List.take_of_length_le (by unfold planeL; rw [List.length_map]; omega)
      rw [ht]
      simp only [v_var, v_c, v_g2, v_gN, v_op, v_B, v_chain, v_and, v_or, v_not, v_andV, v_orV, v_notV, v_if, v_nil, v_cons, v_tup, v_lst, v_call, v_fn, v_next, v_seq, v_break, v_contS, v_drop, v_ret, v_retN, v_retOwn, v_retOwnN, v_ifS, v_never, v_asg, v_gname, v_gnil, v_gcons, v_gtup, v_is1, v_is2, v_tru, v_noPart, v_part, v_cut, v_dnew, v_fdnew, v_flst, v_flstRg, v_span, v_rg1, v_rg2, v_frep, v_fdict, v_asgF, v_append, v_extend, v_popAt, v_pop, v_augIx, v_for, v_while, v_any, v_range1, v_range2, v_zip, v_enumT, v_enum, v_vals, v_items, v_yes, v_lc, v_lcOwn, v_lc2, v_all, v_dc, v_dcOwn, v_par, v_parF, v_par3F, v_par3L, v_inN, v_dget, v_dput, v_daug, v_rel, opt_some, opt_none, opt_ite, opt_map, isD_d, isB_b, isI_i, isL_l, isT'_t, isDict_d, isDV_d, dat1_d, dat2_d, vget_d, vget_row, vget_own, vget_oN, ownL_o, ownN_o, look_nil, look_zero, look_succ, cont_d, cont_vw, rd_d', rd_own', dd_d', dd_oN', startD, List.map_cons, List.map_nil, List.length_cons, List.length_nil, List.replicate, List.cons_append, List.nil_append, List.append_nil, List.set_cons_zero, List.set_cons_succ, List.set_nil, hide, wipeD, noOwn, datas, conts, rds, Nat.reduceAdd, Nat.reduceSub, List.all_cons, List.all_nil, DV.isOwn, fAdd, fInt, fSub, fFDiv, fMod, fMul, fIs, fIsNot, fIx, fCut, isT, cLen, cTuple, cList, cSum, cMax, cMin, cInt, cStr, truD, seqD, zipOf, isNone, fAddI, Bool.not_true, Bool.not_false, Bool.and_true, Bool.true_and, Bool.and_false, Bool.false_and, Bool.or_true, Bool.true_or, Bool.or_false, Bool.false_or, if_true, if_false, Bool.false_eq_true, ite_true, ite_false, reduceCtorEq, Tw.fEq_i, Tw.fNe_i, Tw.fIn_i, Tw.fIn_iC, Tw.fIn_iL, Tw.fNotIn_iC, Tw.fIn_P, Tw.fNotIn_P, Tw.fNotIn_C, Tw.fLt_C, Tw.fLt_i, Tw.fGt_i, Tw.fLe_i, Tw.fGe_i, Tw.atI_0, Tw.atI_1, Tw.atI_2, true_and, and_true, eq_self, cSorted_P hp, List.length_map]
      exact ⟨two_size, h3⟩
abbrev s__law_pair_town : Stmt := topS 29
theorem sc__law_pair_town : FnScope ["row", "most", "way", "town", "pair", "many"] ["row", "most"] (defScope s__law_pair_town) := ⟨rfl, rfl, rfl, by decide +kernel, rfl, by decide +kernel, by decide +kernel⟩
theorem ok__law_pair_town {c : Addr} (F : FunC K mg "_law_pair_town" s__law_pair_town c) (Tx : Txt mg) (c__law_begun : Cal P w K mg base T 3 "_law_begun" ["row", "most"] (g__law_begun)) (c__law_called : Cal P w K mg base T 3 "_law_called" ["row", "town"] (g__law_called)) (c__law_counts : Cal P w K mg base T 3 "_law_counts" ["town"] (g__law_counts)) (c__law_pencil : Cal P w K mg base T 2 "_law_pencil" ["people"] (g__law_pencil)) (c__law_plane : Cal P w K mg base T 3 "_law_plane" ["prime"] (g__law_plane)) (c__law_taken : Cal P w K mg base T 1 "_law_taken" ["row", "many"] (g__law_taken)) : Cal P w K mg base T 4 "_law_pair_town" ["row", "most"] g__law_pair_town := by
  have nd := sc__law_pair_town.nd
  refine cal_of (P := P) (w := w) (K := K) (mg := mg) (base := base) (T := T) F sc__law_pair_town (fun ds QD XD h => by unfold g__law_pair_town at h; split at h <;> first | rfl | exact h.elim) _ (fun _ _ _ _ _ _ us hl => match us, hl with | [_, _], _ => rfl) (fun f A outer s H E XD B => (psd_cons (psd_set (i := 2) nd rfl (by first | exact .inl rfl | exact .inr rfl) (pd_callC c__law_taken (B.room.mono (by first | decide | exact Nat.le_refl _)) B.pass (pad_cons (pd_var (pv 0)) (pad_cons pd_int pad_nil))))
    (psd_cons (psd_if (ptd_cmp (op_eqDD (B.room.u64)) (pd_var (pv 2)) pd_int (by rfl)) (psd_one (psd_ret (pd_callC c__law_called (B.room.mono (by first | decide | exact Nat.le_refl _)) B.pass (pad_cons (pd_var (pv 0)) (pad_cons (pd_callC c__law_pencil (B.room.mono (by first | decide | exact Nat.le_refl _)) B.pass (pad_cons (pd_op op_addD pd_int (pd_callC c__law_taken (B.room.mono (by first | decide | exact Nat.le_refl _)) B.pass (pad_cons (pd_var (pv 0)) (pad_cons (pd_op op_subD (pd_var (pv 1)) pd_int) pad_nil)))) pad_nil)) pad_nil)))))
    psd_nil)
    (psd_cons (psd_if (ptd_cmp (op_eqDD (B.room.u64)) (pd_var (pv 2)) pd_int (by rfl)) (psd_one (psd_ret (pd_callC c__law_called (B.room.mono (by first | decide | exact Nat.le_refl _)) B.pass (pad_cons (pd_var (pv 0)) (pad_cons (pd_callC c__law_plane (B.room.mono (by first | decide | exact Nat.le_refl _)) B.pass (pad_cons pd_int pad_nil)) pad_nil)))))
    psd_nil)
    (psd_cons (psd_set (i := 3) nd rfl (by first | exact .inl rfl | exact .inr rfl) (pd_callC c__law_begun (B.room.mono (by first | decide | exact Nat.le_refl _)) B.pass (pad_cons (pd_var (pv 0)) (pad_cons (pd_var (pv 1)) pad_nil))))
    (psd_one (psd_ret (pd_tup (pad_cons (pd_ix ix_D (pd_var (pv 3)) pd_int (fun _ _ => rfl)) (pad_cons (pd_callTy (call_tupleD) (by rfl) Tx.tuple bt_tuple (pad_cons (pd_callB (call_sortedD (B.room.u100)) (by rfl) Tx.sorted bt_sorted (pad_cons (pd_op op_addD (pd_callTy (call_listD) (by rfl) Tx.list bt_list (pad_cons (pd_ix ix_D (pd_var (pv 3)) pd_int (fun _ _ => rfl)) pad_nil)) (pd_lc (own := [("pair", 4), ("many", 5)]) rfl nd (pid_items (pd_callC c__law_counts (B.room.mono (by first | decide | exact Nat.le_refl _)) B.pass (pad_cons (pd_var (pv 3)) pad_nil))) (blkOk_by (by first | rfl | kernel_rfl)) (fun s H C cl fp => (pgd_tup (n := 2) rfl (pgsd_cons (pgd_name (pg_name (i := 4) nd rfl (by first | exact .inl rfl | exact .inr rfl))) (pgsd_cons (pgd_name (pg_name (i := 5) nd rfl (by first | exact .inl rfl | exact .inr rfl))) pgsd_nil)))) (fun s H C cl fp => (ptsd_one (ptd_cmp (op_eqDD (B.room.u64)) (pd_var (pv 5)) pd_int (by rfl)))) (fun s H C cl fp => (pd_var (pv 4))))) pad_nil)) pad_nil)) pad_nil)))))))))) ?_
  intro ds QD XD h
  unfold g__law_pair_town at h
  split at h
  case h_2 => exact h.elim

  rename_i m
  obtain ⟨h1, h2, h3⟩ := h
  simp only [v_var, v_c, v_g2, v_gN, v_op, v_B, v_chain, v_and, v_or, v_not, v_andV, v_orV, v_notV, v_if, v_nil, v_cons, v_tup, v_lst, v_call, v_fn, v_next, v_seq, v_break, v_contS, v_drop, v_ret, v_retN, v_retOwn, v_retOwnN, v_ifS, v_never, v_asg, v_gname, v_gnil, v_gcons, v_gtup, v_is1, v_is2, v_tru, v_noPart, v_part, v_cut, v_dnew, v_fdnew, v_flst, v_flstRg, v_span, v_rg1, v_rg2, v_frep, v_fdict, v_asgF, v_append, v_extend, v_popAt, v_pop, v_augIx, v_for, v_while, v_any, v_range1, v_range2, v_zip, v_enumT, v_enum, v_vals, v_items, v_yes, v_lc, v_lcOwn, v_lc2, v_all, v_dc, v_dcOwn, v_par, v_parF, v_par3F, v_par3L, v_inN, v_dget, v_dput, v_daug, v_rel, opt_some, opt_none, opt_ite, opt_map, isD_d, isB_b, isI_i, isL_l, isT'_t, isDict_d, isDV_d, dat1_d, dat2_d, vget_d, vget_row, vget_own, vget_oN, ownL_o, ownN_o, look_nil, look_zero, look_succ, cont_d, cont_vw, rd_d', rd_own', dd_d', dd_oN', startD, List.map_cons, List.map_nil, List.length_cons, List.length_nil, List.replicate, List.cons_append, List.nil_append, List.append_nil, List.set_cons_zero, List.set_cons_succ, List.set_nil, hide, wipeD, noOwn, datas, conts, rds, Nat.reduceAdd, Nat.reduceSub, List.all_cons, List.all_nil, DV.isOwn, fAdd, fInt, fSub, fFDiv, fMod, fMul, fIs, fIsNot, fIx, fCut, isT, cLen, cTuple, cList, cSum, cMax, cMin, cInt, cStr, truD, seqD, zipOf, isNone, fAddI, Bool.not_true, Bool.not_false, Bool.and_true, Bool.true_and, Bool.and_false, Bool.false_and, Bool.or_true, Bool.true_or, Bool.or_false, Bool.false_or, if_true, if_false, Bool.false_eq_true, ite_true, ite_false, reduceCtorEq, Tw.fEq_i, Tw.fNe_i, Tw.fIn_i, Tw.fIn_iC, Tw.fIn_iL, Tw.fNotIn_iC, Tw.fIn_P, Tw.fNotIn_P, Tw.fNotIn_C, Tw.fLt_C, Tw.fLt_i, Tw.fGt_i, Tw.fLe_i, Tw.fGe_i, Tw.atI_0, Tw.atI_1, Tw.atI_2, true_and, and_true, eq_self, g__law_taken, g_taken, g__law_called, g__law_pencil, g__law_plane, g__law_begun, g__law_counts]
  have hs := PySem.sizeLine_eq
  refine ⟨by omega, by omega, fun k k0 k1 => ?_⟩
  by_cases e0 : k = 0
  · rw [if_pos (decide_eq_true e0)]
    refine ⟨by omega, by omega, fun j j0 j1 => ⟨by omega, by omega, _, _, rfl, pencil_town (by omega) (by omega), fun f F => ?_⟩⟩
    have ht := pencil_town (n := 3 + j) (by omega) (by omega)
    exact h3 _ _ (.inl (by omega)) (F.town ht) (F.pairT ht.toTownV (pencil_pairs (by omega)))
  rw [if_neg (by simpa using e0)]
  by_cases e1 : k = 1
  · rw [if_pos (decide_eq_true e1)]
    refine ⟨.inl trivial, 7, srtC (planeL 2), by rw [plane2.1]; rfl, plane2_town.1, fun f F => h3 _ _ (.inr (by decide)) (F.town plane2_town.1) (F.pairT plane2_town.1.toTownV plane2_town.2)⟩
  rw [if_neg (by simpa using e1)]
  refine ⟨h1, h2, fun n cs hn ht hl hsg => ⟨n, cs, rfl, ht, ?_⟩⟩
  have hml := missN_len ht.hi cs
  have hpl := pairsN_len n ht.hi
  rw [items_cntP]
  refine lcD_fmap _ (fun p => decide ((cs.flatMap pairsC).count p = 0)) encP (by omega) (fun x hx R hR => ?_) ?_
  · simp only [v_var, v_c, v_g2, v_gN, v_op, v_B, v_chain, v_and, v_or, v_not, v_andV, v_orV, v_notV, v_if, v_nil, v_cons, v_tup, v_lst, v_call, v_fn, v_next, v_seq, v_break, v_contS, v_drop, v_ret, v_retN, v_retOwn, v_retOwnN, v_ifS, v_never, v_asg, v_gname, v_gnil, v_gcons, v_gtup, v_is1, v_is2, v_tru, v_noPart, v_part, v_cut, v_dnew, v_fdnew, v_flst, v_flstRg, v_span, v_rg1, v_rg2, v_frep, v_fdict, v_asgF, v_append, v_extend, v_popAt, v_pop, v_augIx, v_for, v_while, v_any, v_range1, v_range2, v_zip, v_enumT, v_enum, v_vals, v_items, v_yes, v_lc, v_lcOwn, v_lc2, v_all, v_dc, v_dcOwn, v_par, v_parF, v_par3F, v_par3L, v_inN, v_dget, v_dput, v_daug, v_rel, opt_some, opt_none, opt_ite, opt_map, isD_d, isB_b, isI_i, isL_l, isT'_t, isDict_d, isDV_d, dat1_d, dat2_d, vget_d, vget_row, vget_own, vget_oN, ownL_o, ownN_o, look_nil, look_zero, look_succ, cont_d, cont_vw, rd_d', rd_own', dd_d', dd_oN', startD, List.map_cons, List.map_nil, List.length_cons, List.length_nil, List.replicate, List.cons_append, List.nil_append, List.append_nil, List.set_cons_zero, List.set_cons_succ, List.set_nil, hide, wipeD, noOwn, datas, conts, rds, Nat.reduceAdd, Nat.reduceSub, List.all_cons, List.all_nil, DV.isOwn, fAdd, fInt, fSub, fFDiv, fMod, fMul, fIs, fIsNot, fIx, fCut, isT, cLen, cTuple, cList, cSum, cMax, cMin, cInt, cStr, truD, seqD, zipOf, isNone, fAddI, Bool.not_true, Bool.not_false, Bool.and_true, Bool.true_and, Bool.and_false, Bool.false_and, Bool.or_true, Bool.true_or, Bool.or_false, Bool.false_or, if_true, if_false, Bool.false_eq_true, ite_true, ite_false, reduceCtorEq, Tw.fEq_i, Tw.fNe_i, Tw.fIn_i, Tw.fIn_iC, Tw.fIn_iL, Tw.fNotIn_iC, Tw.fIn_P, Tw.fNotIn_P, Tw.fNotIn_C, Tw.fLt_C, Tw.fLt_i, Tw.fGt_i, Tw.fLe_i, Tw.fGe_i, Tw.atI_0, Tw.atI_1, Tw.atI_2, true_and, and_true, eq_self, pairD]
    rw [← dec_cnt0] at hR
    cases h : decide (((cs.flatMap pairsC).count x : Int) = 0) <;> rw [h] at hR <;> simpa using hR
  · have e : cs.map encC ++ ((pairsN n).filter fun p => decide ((cs.flatMap pairsC).count p = 0)).map encP = (filled n cs).map encC := by
      unfold filled
      rw [List.map_append, List.map_map]; rfl
    rw [e, cSorted_C (club_ne (filled_club ht.lo ht.clubs))]
    refine ⟨?_, ?_⟩
    · show (cs.map encC).length + ((missN n cs).map encP).length ≤ sizeLine
      rw [List.length_map, List.length_map]; omega
    · simp only [v_var, v_c, v_g2, v_gN, v_op, v_B, v_chain, v_and, v_or, v_not, v_andV, v_orV, v_notV, v_if, v_nil, v_cons, v_tup, v_lst, v_call, v_fn, v_next, v_seq, v_break, v_contS, v_drop, v_ret, v_retN, v_retOwn, v_retOwnN, v_ifS, v_never, v_asg, v_gname, v_gnil, v_gcons, v_gtup, v_is1, v_is2, v_tru, v_noPart, v_part, v_cut, v_dnew, v_fdnew, v_flst, v_flstRg, v_span, v_rg1, v_rg2, v_frep, v_fdict, v_asgF, v_append, v_extend, v_popAt, v_pop, v_augIx, v_for, v_while, v_any, v_range1, v_range2, v_zip, v_enumT, v_enum, v_vals, v_items, v_yes, v_lc, v_lcOwn, v_lc2, v_all, v_dc, v_dcOwn, v_par, v_parF, v_par3F, v_par3L, v_inN, v_dget, v_dput, v_daug, v_rel, opt_some, opt_none, opt_ite, opt_map, isD_d, isB_b, isI_i, isL_l, isT'_t, isDict_d, isDV_d, dat1_d, dat2_d, vget_d, vget_row, vget_own, vget_oN, ownL_o, ownN_o, look_nil, look_zero, look_succ, cont_d, cont_vw, rd_d', rd_own', dd_d', dd_oN', startD, List.map_cons, List.map_nil, List.length_cons, List.length_nil, List.replicate, List.cons_append, List.nil_append, List.append_nil, List.set_cons_zero, List.set_cons_succ, List.set_nil, hide, wipeD, noOwn, datas, conts, rds, Nat.reduceAdd, Nat.reduceSub, List.all_cons, List.all_nil, DV.isOwn, fAdd, fInt, fSub, fFDiv, fMod, fMul, fIs, fIsNot, fIx, fCut, isT, cLen, cTuple, cList, cSum, cMax, cMin, cInt, cStr, truD, seqD, zipOf, isNone, fAddI, Bool.not_true, Bool.not_false, Bool.and_true, Bool.true_and, Bool.and_false, Bool.false_and, Bool.or_true, Bool.true_or, Bool.or_false, Bool.false_or, if_true, if_false, Bool.false_eq_true, ite_true, ite_false, reduceCtorEq, Tw.fEq_i, Tw.fNe_i, Tw.fIn_i, Tw.fIn_iC, Tw.fIn_iL, Tw.fNotIn_iC, Tw.fIn_P, Tw.fNotIn_P, Tw.fNotIn_C, Tw.fLt_C, Tw.fLt_i, Tw.fGt_i, Tw.fLe_i, Tw.fGe_i, Tw.atI_0, Tw.atI_1, Tw.atI_2, true_and, and_true, eq_self]
      exact ⟨two_size, h3 _ _ (.inl hn) (filled_town ht (by omega)) (filled_pairs ht.clubs hsg).srt⟩
end
end K4
namespace K4
open PySem PySem.Spec L2 DL Tw
def g_shared_numbers : Gf := fun ds QD _ => match ds with
  | [.d v] => ∃ n cs, v = encT n cs ∧ TownS n cs ∧ QD (.list ((uniqI (meets cs)).map .int))
  | _ => False
def g_shares : Gf := fun ds QD _ => match ds with
  | [.d v] => ∃ n cs, v = encT n cs ∧ TownS n cs ∧ QD (.tuple ((uniqI (meets cs)).map .int))
  | _ => False
def g_is_evenly_shared : Gf := fun ds QD _ => match ds with
  | [.d v] => ∃ n cs, v = encT n cs ∧ TownS n cs ∧ QD (.bool (evenB cs))
  | _ => False
def g_turned : Gf := fun ds QD _ => match ds with
  | [.d v] => ∃ n cs, v = encT n cs ∧ TownS n cs ∧ QD (if goodB n cs = true then encT (cs.length : Nat) (srtC (lotsN n cs)) else .none)
  | _ => False
theorem foldl_map1 {α β : Type} (f : α → β) : ∀ (l : List α) (L : List β), l.foldl (fun L x => L ++ [f x]) L = L ++ l.map f
  | [], L => by simp
  | x :: l, L => by rw [List.foldl_cons, foldl_map1 f l, List.map_cons, List.append_assoc]; rfl
theorem chain_iff : ∀ {l : List (List Int)}, (zipD (l.map encC) ((l.map encC).drop 1)).all ltC = true → l.Pairwise (· < ·)
  | [], _ => .nil
  | [x], _ => by simp
  | x :: y :: r, h => by
    simp only [List.map_cons, List.drop_succ_cons, List.drop_zero, zipD, List.zipWith_cons_cons, List.all_cons, Bool.and_eq_true] at h
    have hxy : x < y := by
      have := h.1
      simp only [ltC, pairD] at this
      rw [lt_C] at this
      exact of_decide_eq_true this
    have ih := chain_iff (l := y :: r) (by simpa only [List.map_cons, List.drop_succ_cons, List.drop_zero, zipD] using h.2)
    refine List.pairwise_cons.mpr ⟨fun z hz => ?_, ih⟩
    rcases List.mem_cons.mp hz with rfl | hz
    · exact hxy
    · exact List.lt_trans hxy ((List.pairwise_cons.mp ih).1 z hz)
theorem isNone_iff {v : PyData} : isNone v = true ↔ v = .none := by
  cases v <;> simp [isNone]
theorem good_iff {n : Int} {cs : List (List Int)} (hn : 0 ≤ n) : isNone (wrongW (encT (cs.length : Nat) (srtC (lotsN n cs)))) = goodB n cs := by
  have hlen : (lotsN n cs).length = n.toNat := by rw [lotsN, List.length_map, ir_length]; omega
  rw [Bool.eq_iff_iff, isNone_iff]
  have hshape : wrongW (encT (cs.length : Nat) (srtC (lotsN n cs))) = (if isNum (.int (cs.length : Nat)) 3 31 = true then (if ((srtC (lotsN n cs)).map encC).all (clubB (cs.length : Nat)) = true then (if (zipD ((srtC (lotsN n cs)).map encC) (cutL ((srtC (lotsN n cs)).map encC) (some 1) none)).all ltC = true then PyData.none else .str "clubs") else .str "clubs") else .str "people") := rfl
  rw [hshape, cut_from1]
  unfold goodB
  simp only [Bool.and_eq_true, decide_eq_true_eq]
  constructor
  · intro h
    split at h
    case isFalse => cases h
    rename_i h1
    split at h
    case isFalse => cases h
    rename_i h2
    split at h
    case isFalse => cases h
    rename_i h3
    have h1' : 3 ≤ (cs.length : Int) ∧ (cs.length : Int) ≤ 31 := by simpa [isNum] using h1
    refine ⟨⟨h1', ?_⟩, ?_⟩
    · have nd : (lotsN n cs).Nodup := (srtC_perm _).nodup_iff.mp (ascC_nodup (chain_iff h3))
      rw [dedup_nodup nd, hlen]
      omega
    · rw [List.all_eq_true]
      intro l hl
      have := List.all_eq_true.mp h2 (encC l) (List.mem_map.mpr ⟨l, mem_srtC.mpr hl, rfl⟩)
      simp only [clubB, Bool.and_eq_true, decide_eq_true_eq, List.length_map] at this
      simp only [Bool.and_eq_true, decide_eq_true_eq]
      omega
  · rintro ⟨⟨h1, h2⟩, h3⟩
    have nd : (lotsN n cs).Nodup := dedup_all (by rw [hlen]; omega)
    have k1 : isNum (.int (cs.length : Nat)) 3 31 = true := isNum_ok h1.1 h1.2
    have kv : ∀ l ∈ srtC (lotsN n cs), ClubV (cs.length : Nat) l := fun l hl => by
      have hl' := mem_srtC.mp hl
      have := List.all_eq_true.mp h3 l hl'
      simp only [Bool.and_eq_true, decide_eq_true_eq] at this
      obtain ⟨p, _, rfl⟩ := List.mem_map.mp hl'
      exact ⟨by omega, this.2, fun x hx => lotR_ran hx, lotR_asc cs p⟩
    have := wrongW_ok (n := (cs.length : Nat)) (cs := srtC (lotsN n cs)) ⟨h1.1, h1.2, kv, srtC_asc nd⟩
    rw [hshape, cut_from1] at this
    exact this
theorem mapE (cs : List (List Int)) : enumD (cs.map encC) = (cs.zipIdx 0).map fun p => pairD (.int (p.2 : Nat)) (encC p.1) := enum_map encC cs
section
variable {P : Program} {w : World} {K : PySem.W.Frag} {mg : Str → Option Value} {base : Heap} {T : List Addr}
abbrev s_shared_numbers : Stmt := topS 11
theorem sc_shared_numbers : FnScope ["town", "found", "at", "one", "other", "person"] ["town"] (defScope s_shared_numbers) := ⟨rfl, rfl, rfl, by decide +kernel, rfl, by decide +kernel, by decide +kernel⟩
theorem ok_shared_numbers {c : Addr} (F : FunC K mg "shared_numbers" s_shared_numbers c) (Tx : Txt mg)  : Cal P w K mg base T 2 "shared_numbers" ["town"] g_shared_numbers := by
  have nd := sc_shared_numbers.nd
  refine cal_of (P := P) (w := w) (K := K) (mg := mg) (base := base) (T := T) F sc_shared_numbers (fun ds QD XD h => by unfold g_shared_numbers at h; split at h <;> first | rfl | exact h.elim) _ (fun _ _ _ _ _ _ us hl => match us, hl with | [_], _ => rfl) (fun f A outer s H E XD B => (psd_cons (psd_setF (i := 1) nd rfl (by first | exact .inl rfl | exact .inr rfl) pf_knew)
    (psd_cons (psd_for (vs := [2, 3]) B.own rfl (pid_enumT (by rfl) Tx.enumerate (pad_cons (pd_ix ix_D (pd_var (pv 0)) pd_int (fun _ _ => rfl)) pad_nil)) (pgd_tup (n := 2) rfl (pgsd_cons (pgd_name (pg_name (i := 2) nd rfl (by first | exact .inl rfl | exact .inr rfl))) (pgsd_cons (pgd_name (pg_name (i := 3) nd rfl (by first | exact .inl rfl | exact .inr rfl))) pgsd_nil)))
    (psd_one (psd_for (vs := [4]) B.own rfl (pid_any (pd_slice (pd_ix ix_D (pd_var (pv 0)) pd_int (fun _ _ => rfl)) (pod_some (pd_op op_addD (pd_var (pv 2)) pd_int)) pod_none)) (pgd_name (pg_name (i := 4) nd rfl (by first | exact .inl rfl | exact .inr rfl)))
    (psd_one (psd_kput (B.room.u64) (pv 1) (pd_callB (call_lenD) (by rfl) Tx.len bt_len (pad_cons (pd_lc (own := [("person", 5)]) rfl nd (pid_any (pd_var (pv 3))) (blkOk_by (by first | rfl | kernel_rfl)) (fun s H C cl fp => (pgd_name (pg_name (i := 5) nd rfl (by first | exact .inl rfl | exact .inr rfl)))) (fun s H C cl fp => (ptsd_one (ptd_cmp (op_inDD (B.room.u65)) (pd_var (pv 5)) (pd_var (pv 4)) (by rfl)))) (fun s H C cl fp => (pd_var (pv 5)))) pad_nil)) pd_bl)))))
    (psd_one (psd_ret (pd_sortK (i := 1) rfl (by rfl) Tx.sorted (pv 1))))))) ?_
  intro ds QD XD h
  unfold g_shared_numbers at h
  split at h
  case h_2 => exact h.elim

  rename_i v
  obtain ⟨n, cs, rfl, h1, h2⟩ := h
  simp only [v_var, v_c, v_g2, v_gN, v_op, v_B, v_chain, v_and, v_or, v_not, v_andV, v_orV, v_notV, v_if, v_nil, v_cons, v_tup, v_lst, v_call, v_fn, v_next, v_seq, v_break, v_contS, v_drop, v_ret, v_retN, v_retOwn, v_retOwnN, v_ifS, v_never, v_asg, v_gname, v_gnil, v_gcons, v_gtup, v_is1, v_is2, v_tru, v_noPart, v_part, v_cut, v_dnew, v_fdnew, v_flst, v_flstRg, v_span, v_rg1, v_rg2, v_frep, v_fdict, v_asgF, v_append, v_extend, v_popAt, v_pop, v_augIx, v_for, v_while, v_any, v_range1, v_range2, v_zip, v_enumT, v_enum, v_vals, v_items, v_yes, v_lc, v_lcOwn, v_lc2, v_all, v_dc, v_dcOwn, v_par, v_parF, v_par3F, v_par3L, v_inN, v_dget, v_dput, v_daug, v_rel, opt_some, opt_none, opt_ite, opt_map, isD_d, isB_b, isI_i, isL_l, isT'_t, isDict_d, isDV_d, dat1_d, dat2_d, vget_d, vget_row, vget_own, vget_oN, ownL_o, ownN_o, look_nil, look_zero, look_succ, cont_d, cont_vw, rd_d', rd_own', dd_d', dd_oN', startD, List.map_cons, List.map_nil, List.length_cons, List.length_nil, List.replicate, List.cons_append, List.nil_append, List.append_nil, List.set_cons_zero, List.set_cons_succ, List.set_nil, hide, wipeD, noOwn, datas, conts, rds, Nat.reduceAdd, Nat.reduceSub, List.all_cons, List.all_nil, DV.isOwn, fAdd, fInt, fSub, fFDiv, fMod, fMul, fIs, fIsNot, fIx, fCut, isT, cLen, cTuple, cList, cSum, cMax, cMin, cInt, cStr, truD, seqD, zipOf, isNone, fAddI, Bool.not_true, Bool.not_false, Bool.and_true, Bool.true_and, Bool.and_false, Bool.false_and, Bool.or_true, Bool.true_or, Bool.or_false, Bool.false_or, if_true, if_false, Bool.false_eq_true, ite_true, ite_false, reduceCtorEq, Tw.fEq_i, Tw.fNe_i, Tw.fIn_i, Tw.fIn_iC, Tw.fIn_iL, Tw.fNotIn_iC, Tw.fIn_P, Tw.fNotIn_P, Tw.fNotIn_C, Tw.fLt_C, Tw.fLt_i, Tw.fGt_i, Tw.fLe_i, Tw.fGe_i, Tw.atI_0, Tw.atI_1, Tw.atI_2, true_and, and_true, eq_self, v_fknew, v_sortK, v_setSort, v_lenSetT, v_kput, ownK_o]
  have hs := PySem.sizeLine_eq
  have hbd := meets_bd h1.hi h1.clubs
  rw [mapE]
  refine forD_fold (fun p : List Int × Nat => pairD (.int (p.2 : Nat)) (encC p.1)) (fun L δ => ∃ a b c d, δ = [some (.d (encT n cs)), some (.oK ((kf L).map kE)), a, b, c, d] ∧ ∀ x ∈ L, 0 ≤ x ∧ x ≤ 31) (fun L p => L ++ (cs.drop (p.2 + 1)).map (meet p.1)) [] ⟨none, none, none, none, rfl, fun x hx => by cases hx⟩ (fun k p δ R hk ⟨a, b, c, d, hδ, hb⟩ hR => ?_) (fun δ ⟨a, b, c, d, hδ, hb⟩ => ?_)
  · subst hδ
    have hp := List.mem_zipIdx (List.mem_of_getElem? hk)
    have hpc : p.1 ∈ cs := by rw [hp.2.2]; exact List.getElem_mem _
    have hcl := (h1.clubs p.1 hpc).less
    have hhi := h1.hi
    simp only [v_var, v_c, v_g2, v_gN, v_op, v_B, v_chain, v_and, v_or, v_not, v_andV, v_orV, v_notV, v_if, v_nil, v_cons, v_tup, v_lst, v_call, v_fn, v_next, v_seq, v_break, v_contS, v_drop, v_ret, v_retN, v_retOwn, v_retOwnN, v_ifS, v_never, v_asg, v_gname, v_gnil, v_gcons, v_gtup, v_is1, v_is2, v_tru, v_noPart, v_part, v_cut, v_dnew, v_fdnew, v_flst, v_flstRg, v_span, v_rg1, v_rg2, v_frep, v_fdict, v_asgF, v_append, v_extend, v_popAt, v_pop, v_augIx, v_for, v_while, v_any, v_range1, v_range2, v_zip, v_enumT, v_enum, v_vals, v_items, v_yes, v_lc, v_lcOwn, v_lc2, v_all, v_dc, v_dcOwn, v_par, v_parF, v_par3F, v_par3L, v_inN, v_dget, v_dput, v_daug, v_rel, opt_some, opt_none, opt_ite, opt_map, isD_d, isB_b, isI_i, isL_l, isT'_t, isDict_d, isDV_d, dat1_d, dat2_d, vget_d, vget_row, vget_own, vget_oN, ownL_o, ownN_o, look_nil, look_zero, look_succ, cont_d, cont_vw, rd_d', rd_own', dd_d', dd_oN', startD, List.map_cons, List.map_nil, List.length_cons, List.length_nil, List.replicate, List.cons_append, List.nil_append, List.append_nil, List.set_cons_zero, List.set_cons_succ, List.set_nil, hide, wipeD, noOwn, datas, conts, rds, Nat.reduceAdd, Nat.reduceSub, List.all_cons, List.all_nil, DV.isOwn, fAdd, fInt, fSub, fFDiv, fMod, fMul, fIs, fIsNot, fIx, fCut, isT, cLen, cTuple, cList, cSum, cMax, cMin, cInt, cStr, truD, seqD, zipOf, isNone, fAddI, Bool.not_true, Bool.not_false, Bool.and_true, Bool.true_and, Bool.and_false, Bool.false_and, Bool.or_true, Bool.true_or, Bool.or_false, Bool.false_or, if_true, if_false, Bool.false_eq_true, ite_true, ite_false, reduceCtorEq, Tw.fEq_i, Tw.fNe_i, Tw.fIn_i, Tw.fIn_iC, Tw.fIn_iL, Tw.fNotIn_iC, Tw.fIn_P, Tw.fNotIn_P, Tw.fNotIn_C, Tw.fLt_C, Tw.fLt_i, Tw.fGt_i, Tw.fLe_i, Tw.fGe_i, Tw.atI_0, Tw.atI_1, Tw.atI_2, true_and, and_true, eq_self, v_fknew, v_sortK, v_setSort, v_lenSetT, v_kput, ownK_o,  pairD]
    rw [cut_fromI _ _ (by omega), show ((p.2 : Int) + 1).toNat = p.2 + 1 by omega, ← List.map_drop]
    refine forD_fold encC (fun L δ => ∃ d e, δ = [some (.d (encT n cs)), some (.oK ((kf L).map kE)), some (.d (.int (p.2 : Nat))), some (.d (encC p.1)), d, e] ∧ ∀ x ∈ L, 0 ≤ x ∧ x ≤ 31) (fun L x => L ++ [meet p.1 x]) _ ⟨c, d, rfl, hb⟩ (fun j y δ R2 hy ⟨c, d, hδ, hb⟩ hR2 => ?_) (fun δ ⟨c, d, hδ, hb2⟩ => ?_)
    · subst hδ
      simp only [v_var, v_c, v_g2, v_gN, v_op, v_B, v_chain, v_and, v_or, v_not, v_andV, v_orV, v_notV, v_if, v_nil, v_cons, v_tup, v_lst, v_call, v_fn, v_next, v_seq, v_break, v_contS, v_drop, v_ret, v_retN, v_retOwn, v_retOwnN, v_ifS, v_never, v_asg, v_gname, v_gnil, v_gcons, v_gtup, v_is1, v_is2, v_tru, v_noPart, v_part, v_cut, v_dnew, v_fdnew, v_flst, v_flstRg, v_span, v_rg1, v_rg2, v_frep, v_fdict, v_asgF, v_append, v_extend, v_popAt, v_pop, v_augIx, v_for, v_while, v_any, v_range1, v_range2, v_zip, v_enumT, v_enum, v_vals, v_items, v_yes, v_lc, v_lcOwn, v_lc2, v_all, v_dc, v_dcOwn, v_par, v_parF, v_par3F, v_par3L, v_inN, v_dget, v_dput, v_daug, v_rel, opt_some, opt_none, opt_ite, opt_map, isD_d, isB_b, isI_i, isL_l, isT'_t, isDict_d, isDV_d, dat1_d, dat2_d, vget_d, vget_row, vget_own, vget_oN, ownL_o, ownN_o, look_nil, look_zero, look_succ, cont_d, cont_vw, rd_d', rd_own', dd_d', dd_oN', startD, List.map_cons, List.map_nil, List.length_cons, List.length_nil, List.replicate, List.cons_append, List.nil_append, List.append_nil, List.set_cons_zero, List.set_cons_succ, List.set_nil, hide, wipeD, noOwn, datas, conts, rds, Nat.reduceAdd, Nat.reduceSub, List.all_cons, List.all_nil, DV.isOwn, fAdd, fInt, fSub, fFDiv, fMod, fMul, fIs, fIsNot, fIx, fCut, isT, cLen, cTuple, cList, cSum, cMax, cMin, cInt, cStr, truD, seqD, zipOf, isNone, fAddI, Bool.not_true, Bool.not_false, Bool.and_true, Bool.true_and, Bool.and_false, Bool.false_and, Bool.or_true, Bool.true_or, Bool.or_false, Bool.false_or, if_true, if_false, Bool.false_eq_true, ite_true, ite_false, reduceCtorEq, Tw.fEq_i, Tw.fNe_i, Tw.fIn_i, Tw.fIn_iC, Tw.fIn_iL, Tw.fNotIn_iC, Tw.fIn_P, Tw.fNotIn_P, Tw.fNotIn_C, Tw.fLt_C, Tw.fLt_i, Tw.fGt_i, Tw.fLe_i, Tw.fGe_i, Tw.atI_0, Tw.atI_1, Tw.atI_2, true_and, and_true, eq_self, v_fknew, v_sortK, v_setSort, v_lenSetT, v_kput, ownK_o]
      refine lcD_filter .int (fun x => decide (x ∈ y)) (by omega) (fun x hx Q Z => ?_) ?_
      · simp only [v_var, v_c, v_g2, v_gN, v_op, v_B, v_chain, v_and, v_or, v_not, v_andV, v_orV, v_notV, v_if, v_nil, v_cons, v_tup, v_lst, v_call, v_fn, v_next, v_seq, v_break, v_contS, v_drop, v_ret, v_retN, v_retOwn, v_retOwnN, v_ifS, v_never, v_asg, v_gname, v_gnil, v_gcons, v_gtup, v_is1, v_is2, v_tru, v_noPart, v_part, v_cut, v_dnew, v_fdnew, v_flst, v_flstRg, v_span, v_rg1, v_rg2, v_frep, v_fdict, v_asgF, v_append, v_extend, v_popAt, v_pop, v_augIx, v_for, v_while, v_any, v_range1, v_range2, v_zip, v_enumT, v_enum, v_vals, v_items, v_yes, v_lc, v_lcOwn, v_lc2, v_all, v_dc, v_dcOwn, v_par, v_parF, v_par3F, v_par3L, v_inN, v_dget, v_dput, v_daug, v_rel, opt_some, opt_none, opt_ite, opt_map, isD_d, isB_b, isI_i, isL_l, isT'_t, isDict_d, isDV_d, dat1_d, dat2_d, vget_d, vget_row, vget_own, vget_oN, ownL_o, ownN_o, look_nil, look_zero, look_succ, cont_d, cont_vw, rd_d', rd_own', dd_d', dd_oN', startD, List.map_cons, List.map_nil, List.length_cons, List.length_nil, List.replicate, List.cons_append, List.nil_append, List.append_nil, List.set_cons_zero, List.set_cons_succ, List.set_nil, hide, wipeD, noOwn, datas, conts, rds, Nat.reduceAdd, Nat.reduceSub, List.all_cons, List.all_nil, DV.isOwn, fAdd, fInt, fSub, fFDiv, fMod, fMul, fIs, fIsNot, fIx, fCut, isT, cLen, cTuple, cList, cSum, cMax, cMin, cInt, cStr, truD, seqD, zipOf, isNone, fAddI, Bool.not_true, Bool.not_false, Bool.and_true, Bool.true_and, Bool.and_false, Bool.false_and, Bool.or_true, Bool.true_or, Bool.or_false, Bool.false_or, if_true, if_false, Bool.false_eq_true, ite_true, ite_false, reduceCtorEq, Tw.fEq_i, Tw.fNe_i, Tw.fIn_i, Tw.fIn_iC, Tw.fIn_iL, Tw.fNotIn_iC, Tw.fIn_P, Tw.fNotIn_P, Tw.fNotIn_C, Tw.fLt_C, Tw.fLt_i, Tw.fGt_i, Tw.fLe_i, Tw.fGe_i, Tw.atI_0, Tw.atI_1, Tw.atI_2, true_and, and_true, eq_self]
        cases h : decide (x ∈ y) <;> rw [h] at Z <;> simpa using Z
      simp only [v_var, v_c, v_g2, v_gN, v_op, v_B, v_chain, v_and, v_or, v_not, v_andV, v_orV, v_notV, v_if, v_nil, v_cons, v_tup, v_lst, v_call, v_fn, v_next, v_seq, v_break, v_contS, v_drop, v_ret, v_retN, v_retOwn, v_retOwnN, v_ifS, v_never, v_asg, v_gname, v_gnil, v_gcons, v_gtup, v_is1, v_is2, v_tru, v_noPart, v_part, v_cut, v_dnew, v_fdnew, v_flst, v_flstRg, v_span, v_rg1, v_rg2, v_frep, v_fdict, v_asgF, v_append, v_extend, v_popAt, v_pop, v_augIx, v_for, v_while, v_any, v_range1, v_range2, v_zip, v_enumT, v_enum, v_vals, v_items, v_yes, v_lc, v_lcOwn, v_lc2, v_all, v_dc, v_dcOwn, v_par, v_parF, v_par3F, v_par3L, v_inN, v_dget, v_dput, v_daug, v_rel, opt_some, opt_none, opt_ite, opt_map, isD_d, isB_b, isI_i, isL_l, isT'_t, isDict_d, isDV_d, dat1_d, dat2_d, vget_d, vget_row, vget_own, vget_oN, ownL_o, ownN_o, look_nil, look_zero, look_succ, cont_d, cont_vw, rd_d', rd_own', dd_d', dd_oN', startD, List.map_cons, List.map_nil, List.length_cons, List.length_nil, List.replicate, List.cons_append, List.nil_append, List.append_nil, List.set_cons_zero, List.set_cons_succ, List.set_nil, hide, wipeD, noOwn, datas, conts, rds, Nat.reduceAdd, Nat.reduceSub, List.all_cons, List.all_nil, DV.isOwn, fAdd, fInt, fSub, fFDiv, fMod, fMul, fIs, fIsNot, fIx, fCut, isT, cLen, cTuple, cList, cSum, cMax, cMin, cInt, cStr, truD, seqD, zipOf, isNone, fAddI, Bool.not_true, Bool.not_false, Bool.and_true, Bool.true_and, Bool.and_false, Bool.false_and, Bool.or_true, Bool.true_or, Bool.or_false, Bool.false_or, if_true, if_false, Bool.false_eq_true, ite_true, ite_false, reduceCtorEq, Tw.fEq_i, Tw.fNe_i, Tw.fIn_i, Tw.fIn_iC, Tw.fIn_iL, Tw.fNotIn_iC, Tw.fIn_P, Tw.fNotIn_P, Tw.fNotIn_C, Tw.fLt_C, Tw.fLt_i, Tw.fGt_i, Tw.fLe_i, Tw.fGe_i, Tw.atI_0, Tw.atI_1, Tw.atI_2, true_and, and_true, eq_self, v_fknew, v_sortK, v_setSort, v_lenSetT, v_kput, ownK_o,  List.length_map, List.map_map]
      have hkl := kf_len hb
      refine ⟨by omega, hR2 _ ⟨some (.d (encC y)), d, ?_, ?_⟩⟩
      · rw [foldl_step hy, kf_snoc]
        rw [← kf_put]
        rfl
      · rw [foldl_step hy]
        intro x hx
        rcases List.mem_append.mp hx with hx | hx
        · exact hb x hx
        · rw [List.mem_singleton] at hx
          subst hx
          have := meet_nonneg p.1 y
          have := meet_le p.1 y
          omega
    · subst hδ
      refine hR _ ⟨some (.d (.int (p.2 : Nat))), some (.d (encC p.1)), c, d, ?_, ?_⟩
      · rw [foldl_step hk, foldl_map1]
      · rw [foldl_step hk, ← foldl_map1]
        exact hb2
  · subst hδ
    have e1 : (cs.zipIdx 0).foldl (fun L p => L ++ (cs.drop (p.2 + 1)).map (meet p.1)) [] = meets cs := by
      have := foldl_app (fun p : List Int × Nat => (cs.drop (p.2 + 1)).map (meet p.1)) (cs.zipIdx 0) []
      rw [this, List.nil_append]
      exact meets_idx cs 0
    rw [e1] at hb ⊢
    simp only [v_var, v_c, v_g2, v_gN, v_op, v_B, v_chain, v_and, v_or, v_not, v_andV, v_orV, v_notV, v_if, v_nil, v_cons, v_tup, v_lst, v_call, v_fn, v_next, v_seq, v_break, v_contS, v_drop, v_ret, v_retN, v_retOwn, v_retOwnN, v_ifS, v_never, v_asg, v_gname, v_gnil, v_gcons, v_gtup, v_is1, v_is2, v_tru, v_noPart, v_part, v_cut, v_dnew, v_fdnew, v_flst, v_flstRg, v_span, v_rg1, v_rg2, v_frep, v_fdict, v_asgF, v_append, v_extend, v_popAt, v_pop, v_augIx, v_for, v_while, v_any, v_range1, v_range2, v_zip, v_enumT, v_enum, v_vals, v_items, v_yes, v_lc, v_lcOwn, v_lc2, v_all, v_dc, v_dcOwn, v_par, v_parF, v_par3F, v_par3L, v_inN, v_dget, v_dput, v_daug, v_rel, opt_some, opt_none, opt_ite, opt_map, isD_d, isB_b, isI_i, isL_l, isT'_t, isDict_d, isDV_d, dat1_d, dat2_d, vget_d, vget_row, vget_own, vget_oN, ownL_o, ownN_o, look_nil, look_zero, look_succ, cont_d, cont_vw, rd_d', rd_own', dd_d', dd_oN', startD, List.map_cons, List.map_nil, List.length_cons, List.length_nil, List.replicate, List.cons_append, List.nil_append, List.append_nil, List.set_cons_zero, List.set_cons_succ, List.set_nil, hide, wipeD, noOwn, datas, conts, rds, Nat.reduceAdd, Nat.reduceSub, List.all_cons, List.all_nil, DV.isOwn, fAdd, fInt, fSub, fFDiv, fMod, fMul, fIs, fIsNot, fIx, fCut, isT, cLen, cTuple, cList, cSum, cMax, cMin, cInt, cStr, truD, seqD, zipOf, isNone, fAddI, Bool.not_true, Bool.not_false, Bool.and_true, Bool.true_and, Bool.and_false, Bool.false_and, Bool.or_true, Bool.true_or, Bool.or_false, Bool.false_or, if_true, if_false, Bool.false_eq_true, ite_true, ite_false, reduceCtorEq, Tw.fEq_i, Tw.fNe_i, Tw.fIn_i, Tw.fIn_iC, Tw.fIn_iL, Tw.fNotIn_iC, Tw.fIn_P, Tw.fNotIn_P, Tw.fNotIn_C, Tw.fLt_C, Tw.fLt_i, Tw.fGt_i, Tw.fLe_i, Tw.fGe_i, Tw.atI_0, Tw.atI_1, Tw.atI_2, true_and, and_true, eq_self, v_fknew, v_sortK, v_setSort, v_lenSetT, v_kput, ownK_o,  keysI_kE]
    have hkl := kf_len hb
    refine ⟨by omega, fun ys hp hs' => ?_⟩
    rw [kf_sorted hp hs']
    exact h2
abbrev s_shares : Stmt := topS 12
theorem sc_shares : FnScope ["town"] ["town"] (defScope s_shares) := ⟨rfl, rfl, rfl, by decide +kernel, rfl, by decide +kernel, by decide +kernel⟩
theorem ok_shares {c : Addr} (F : FunC K mg "shares" s_shares c) (Tx : Txt mg) (c_need_town : Cal P w K mg base T 6 "need_town" ["value"] (g_need_town)) (c_shared_numbers : Cal P w K mg base T 2 "shared_numbers" ["town"] (g_shared_numbers)) : Cal P w K mg base T 7 "shares" ["town"] g_shares := by
  have nd := sc_shares.nd
  refine cal_of (P := P) (w := w) (K := K) (mg := mg) (base := base) (T := T) F sc_shares (fun ds QD XD h => by unfold g_shares at h; split at h <;> first | rfl | exact h.elim) _ (fun _ _ _ _ _ _ us hl => match us, hl with | [_], _ => rfl) (fun f A outer s H E XD B => (psd_cons (psd_expr (pd_callC c_need_town (B.room.mono (by first | decide | exact Nat.le_refl _)) B.pass (pad_cons (pd_var (pv 0)) pad_nil)))
    (psd_one (psd_ret (pd_callTy (call_tupleD) (by rfl) Tx.tuple bt_tuple (pad_cons (pd_callC c_shared_numbers (B.room.mono (by first | decide | exact Nat.le_refl _)) B.pass (pad_cons (pd_var (pv 0)) pad_nil)) pad_nil)))))) ?_
  intro ds QD XD h
  unfold g_shares at h
  split at h
  case h_2 => exact h.elim

  rename_i v
  obtain ⟨n, cs, rfl, h1, h2⟩ := h
  have hw := h1.w
  simp only [v_var, v_c, v_g2, v_gN, v_op, v_B, v_chain, v_and, v_or, v_not, v_andV, v_orV, v_notV, v_if, v_nil, v_cons, v_tup, v_lst, v_call, v_fn, v_next, v_seq, v_break, v_contS, v_drop, v_ret, v_retN, v_retOwn, v_retOwnN, v_ifS, v_never, v_asg, v_gname, v_gnil, v_gcons, v_gtup, v_is1, v_is2, v_tru, v_noPart, v_part, v_cut, v_dnew, v_fdnew, v_flst, v_flstRg, v_span, v_rg1, v_rg2, v_frep, v_fdict, v_asgF, v_append, v_extend, v_popAt, v_pop, v_augIx, v_for, v_while, v_any, v_range1, v_range2, v_zip, v_enumT, v_enum, v_vals, v_items, v_yes, v_lc, v_lcOwn, v_lc2, v_all, v_dc, v_dcOwn, v_par, v_parF, v_par3F, v_par3L, v_inN, v_dget, v_dput, v_daug, v_rel, opt_some, opt_none, opt_ite, opt_map, isD_d, isB_b, isI_i, isL_l, isT'_t, isDict_d, isDV_d, dat1_d, dat2_d, vget_d, vget_row, vget_own, vget_oN, ownL_o, ownN_o, look_nil, look_zero, look_succ, cont_d, cont_vw, rd_d', rd_own', dd_d', dd_oN', startD, List.map_cons, List.map_nil, List.length_cons, List.length_nil, List.replicate, List.cons_append, List.nil_append, List.append_nil, List.set_cons_zero, List.set_cons_succ, List.set_nil, hide, wipeD, noOwn, datas, conts, rds, Nat.reduceAdd, Nat.reduceSub, List.all_cons, List.all_nil, DV.isOwn, fAdd, fInt, fSub, fFDiv, fMod, fMul, fIs, fIsNot, fIx, fCut, isT, cLen, cTuple, cList, cSum, cMax, cMin, cInt, cStr, truD, seqD, zipOf, isNone, fAddI, Bool.not_true, Bool.not_false, Bool.and_true, Bool.true_and, Bool.and_false, Bool.false_and, Bool.or_true, Bool.true_or, Bool.or_false, Bool.false_or, if_true, if_false, Bool.false_eq_true, ite_true, ite_false, reduceCtorEq, Tw.fEq_i, Tw.fNe_i, Tw.fIn_i, Tw.fIn_iC, Tw.fIn_iL, Tw.fNotIn_iC, Tw.fIn_P, Tw.fNotIn_P, Tw.fNotIn_C, Tw.fLt_C, Tw.fLt_i, Tw.fGt_i, Tw.fLe_i, Tw.fGe_i, Tw.atI_0, Tw.atI_1, Tw.atI_2, true_and, and_true, eq_self, g_need_town, g_shared_numbers, hw]
  exact ⟨n, cs, rfl, h1, h2⟩
abbrev s_is_evenly_shared : Stmt := topS 13
theorem sc_is_evenly_shared : FnScope ["town", "found"] ["town"] (defScope s_is_evenly_shared) := ⟨rfl, rfl, rfl, by decide +kernel, rfl, by decide +kernel, by decide +kernel⟩
theorem ok_is_evenly_shared {c : Addr} (F : FunC K mg "is_evenly_shared" s_is_evenly_shared c) (Tx : Txt mg) (c_need_town : Cal P w K mg base T 6 "need_town" ["value"] (g_need_town)) (c_shared_numbers : Cal P w K mg base T 2 "shared_numbers" ["town"] (g_shared_numbers)) : Cal P w K mg base T 7 "is_evenly_shared" ["town"] g_is_evenly_shared := by
  have nd := sc_is_evenly_shared.nd
  refine cal_of (P := P) (w := w) (K := K) (mg := mg) (base := base) (T := T) F sc_is_evenly_shared (fun ds QD XD h => by unfold g_is_evenly_shared at h; split at h <;> first | rfl | exact h.elim) _ (fun _ _ _ _ _ _ us hl => match us, hl with | [_], _ => rfl) (fun f A outer s H E XD B => (psd_cons (psd_expr (pd_callC c_need_town (B.room.mono (by first | decide | exact Nat.le_refl _)) B.pass (pad_cons (pd_var (pv 0)) pad_nil)))
    (psd_cons (psd_set (i := 1) nd rfl (by first | exact .inl rfl | exact .inr rfl) (pd_callC c_shared_numbers (B.room.mono (by first | decide | exact Nat.le_refl _)) B.pass (pad_cons (pd_var (pv 0)) pad_nil)))
    (psd_one (psd_ret (pd_and (pd_cmp (op_ltD (B.room.u64)) (pd_callB (call_lenD) (by rfl) Tx.len bt_len (pad_cons (pd_var (pv 1)) pad_nil)) pd_int (by rfl)) (pd_one (pd_cmp (op_notInDD (B.room.u65)) pd_int (pd_var (pv 1)) (by rfl))))))))) ?_
  intro ds QD XD h
  unfold g_is_evenly_shared at h
  split at h
  case h_2 => exact h.elim

  rename_i v
  obtain ⟨n, cs, rfl, h1, h2⟩ := h
  have hw := h1.w
  simp only [v_var, v_c, v_g2, v_gN, v_op, v_B, v_chain, v_and, v_or, v_not, v_andV, v_orV, v_notV, v_if, v_nil, v_cons, v_tup, v_lst, v_call, v_fn, v_next, v_seq, v_break, v_contS, v_drop, v_ret, v_retN, v_retOwn, v_retOwnN, v_ifS, v_never, v_asg, v_gname, v_gnil, v_gcons, v_gtup, v_is1, v_is2, v_tru, v_noPart, v_part, v_cut, v_dnew, v_fdnew, v_flst, v_flstRg, v_span, v_rg1, v_rg2, v_frep, v_fdict, v_asgF, v_append, v_extend, v_popAt, v_pop, v_augIx, v_for, v_while, v_any, v_range1, v_range2, v_zip, v_enumT, v_enum, v_vals, v_items, v_yes, v_lc, v_lcOwn, v_lc2, v_all, v_dc, v_dcOwn, v_par, v_parF, v_par3F, v_par3L, v_inN, v_dget, v_dput, v_daug, v_rel, opt_some, opt_none, opt_ite, opt_map, isD_d, isB_b, isI_i, isL_l, isT'_t, isDict_d, isDV_d, dat1_d, dat2_d, vget_d, vget_row, vget_own, vget_oN, ownL_o, ownN_o, look_nil, look_zero, look_succ, cont_d, cont_vw, rd_d', rd_own', dd_d', dd_oN', startD, List.map_cons, List.map_nil, List.length_cons, List.length_nil, List.replicate, List.cons_append, List.nil_append, List.append_nil, List.set_cons_zero, List.set_cons_succ, List.set_nil, hide, wipeD, noOwn, datas, conts, rds, Nat.reduceAdd, Nat.reduceSub, List.all_cons, List.all_nil, DV.isOwn, fAdd, fInt, fSub, fFDiv, fMod, fMul, fIs, fIsNot, fIx, fCut, isT, cLen, cTuple, cList, cSum, cMax, cMin, cInt, cStr, truD, seqD, zipOf, isNone, fAddI, Bool.not_true, Bool.not_false, Bool.and_true, Bool.true_and, Bool.and_false, Bool.false_and, Bool.or_true, Bool.true_or, Bool.or_false, Bool.false_or, if_true, if_false, Bool.false_eq_true, ite_true, ite_false, reduceCtorEq, Tw.fEq_i, Tw.fNe_i, Tw.fIn_i, Tw.fIn_iC, Tw.fIn_iL, Tw.fNotIn_iC, Tw.fIn_P, Tw.fNotIn_P, Tw.fNotIn_C, Tw.fLt_C, Tw.fLt_i, Tw.fGt_i, Tw.fLe_i, Tw.fGe_i, Tw.atI_0, Tw.atI_1, Tw.atI_2, true_and, and_true, eq_self, g_need_town, g_shared_numbers, hw]
  refine ⟨n, cs, rfl, h1, ?_⟩
  rw [List.length_map]
  unfold evenB at h2
  cases h5 : decide (((uniqI (meets cs)).length : Int) < 2) <;> cases h6 : decide (0 ∈ uniqI (meets cs)) <;> rw [h5, h6] at h2 <;> simpa [fNotIn_iL, h6, opt_some] using h2
abbrev s_turned : Stmt := topS 14
theorem sc_turned : FnScope ["town", "clubs", "person", "number", "club", "found"] ["town"] (defScope s_turned) := ⟨rfl, rfl, rfl, by decide +kernel, rfl, by decide +kernel, by decide +kernel⟩
theorem ok_turned {c : Addr} (F : FunC K mg "turned" s_turned c) (Tx : Txt mg) (c_is_town : Cal P w K mg base T 6 "is_town" ["value"] (g_is_town)) (c_need_town : Cal P w K mg base T 6 "need_town" ["value"] (g_need_town)) : Cal P w K mg base T 7 "turned" ["town"] g_turned := by
  have nd := sc_turned.nd
  refine cal_of (P := P) (w := w) (K := K) (mg := mg) (base := base) (T := T) F sc_turned (fun ds QD XD h => by unfold g_turned at h; split at h <;> first | rfl | exact h.elim) _ (fun _ _ _ _ _ _ us hl => match us, hl with | [_], _ => rfl) (fun f A outer s H E XD B => (psd_cons (psd_expr (pd_callC c_need_town (B.room.mono (by first | decide | exact Nat.le_refl _)) B.pass (pad_cons (pd_var (pv 0)) pad_nil)))
    (psd_cons (psd_setF (i := 1) nd rfl (by first | exact .inl rfl | exact .inr rfl) (pf_lst pad_nil))
    (psd_cons (psd_for (vs := [2]) B.own rfl (pid_range1 (by rfl) Tx.range (pad_cons (pd_ix ix_D (pd_var (pv 0)) pd_int (fun _ _ => rfl)) pad_nil)) (pgd_name (pg_name (i := 2) nd rfl (by first | exact .inl rfl | exact .inr rfl)))
    (psd_one (psd_append (pv 1) (pd_callTy (call_tupleD) (by rfl) Tx.tuple bt_tuple (pad_cons (pd_lc (own := [("number", 3), ("club", 4)]) rfl nd (pid_enumT (by rfl) Tx.enumerate (pad_cons (pd_ix ix_D (pd_var (pv 0)) pd_int (fun _ _ => rfl)) pad_nil)) (blkOk_by (by first | rfl | kernel_rfl)) (fun s H C cl fp => (pgd_tup (n := 2) rfl (pgsd_cons (pgd_name (pg_name (i := 3) nd rfl (by first | exact .inl rfl | exact .inr rfl))) (pgsd_cons (pgd_name (pg_name (i := 4) nd rfl (by first | exact .inl rfl | exact .inr rfl))) pgsd_nil)))) (fun s H C cl fp => (ptsd_one (ptd_cmp (op_inDD (B.room.u65)) (pd_var (pv 2)) (pd_var (pv 4)) (by rfl)))) (fun s H C cl fp => (pd_var (pv 3)))) pad_nil)))))
    (psd_cons (psd_set (i := 5) nd rfl (by first | exact .inl rfl | exact .inr rfl) (pd_tup (pad_cons (pd_callB (call_lenD) (by rfl) Tx.len bt_len (pad_cons (pd_ix ix_D (pd_var (pv 0)) pd_int (fun _ _ => rfl)) pad_nil)) (pad_cons (pd_callTy (call_tupleD) (by rfl) Tx.tuple bt_tuple (pad_cons (pd_callB (call_sortedD (B.room.u100)) (by rfl) Tx.sorted bt_sorted (pad_cons (pd_var (pv 1)) pad_nil)) pad_nil)) pad_nil))))
    (psd_one (psd_ret (pd_ifExp (ptd_val (pd_callC c_is_town (B.room.mono (by first | decide | exact Nat.le_refl _)) B.pass (pad_cons (pd_var (pv 5)) pad_nil))) (pd_var (pv 5)) pd_non)))))))) ?_
  intro ds QD XD h
  unfold g_turned at h
  split at h
  case h_2 => exact h.elim

  rename_i v
  obtain ⟨n, cs, rfl, h1, h2⟩ := h
  have hw := h1.w
  have hs := PySem.sizeLine_eq
  have hlo := h1.lo
  have hhi := h1.hi
  have hfew := h1.few
  simp only [v_var, v_c, v_g2, v_gN, v_op, v_B, v_chain, v_and, v_or, v_not, v_andV, v_orV, v_notV, v_if, v_nil, v_cons, v_tup, v_lst, v_call, v_fn, v_next, v_seq, v_break, v_contS, v_drop, v_ret, v_retN, v_retOwn, v_retOwnN, v_ifS, v_never, v_asg, v_gname, v_gnil, v_gcons, v_gtup, v_is1, v_is2, v_tru, v_noPart, v_part, v_cut, v_dnew, v_fdnew, v_flst, v_flstRg, v_span, v_rg1, v_rg2, v_frep, v_fdict, v_asgF, v_append, v_extend, v_popAt, v_pop, v_augIx, v_for, v_while, v_any, v_range1, v_range2, v_zip, v_enumT, v_enum, v_vals, v_items, v_yes, v_lc, v_lcOwn, v_lc2, v_all, v_dc, v_dcOwn, v_par, v_parF, v_par3F, v_par3L, v_inN, v_dget, v_dput, v_daug, v_rel, opt_some, opt_none, opt_ite, opt_map, isD_d, isB_b, isI_i, isL_l, isT'_t, isDict_d, isDV_d, dat1_d, dat2_d, vget_d, vget_row, vget_own, vget_oN, ownL_o, ownN_o, look_nil, look_zero, look_succ, cont_d, cont_vw, rd_d', rd_own', dd_d', dd_oN', startD, List.map_cons, List.map_nil, List.length_cons, List.length_nil, List.replicate, List.cons_append, List.nil_append, List.append_nil, List.set_cons_zero, List.set_cons_succ, List.set_nil, hide, wipeD, noOwn, datas, conts, rds, Nat.reduceAdd, Nat.reduceSub, List.all_cons, List.all_nil, DV.isOwn, fAdd, fInt, fSub, fFDiv, fMod, fMul, fIs, fIsNot, fIx, fCut, isT, cLen, cTuple, cList, cSum, cMax, cMin, cInt, cStr, truD, seqD, zipOf, isNone, fAddI, Bool.not_true, Bool.not_false, Bool.and_true, Bool.true_and, Bool.and_false, Bool.false_and, Bool.or_true, Bool.true_or, Bool.or_false, Bool.false_or, if_true, if_false, Bool.false_eq_true, ite_true, ite_false, reduceCtorEq, Tw.fEq_i, Tw.fNe_i, Tw.fIn_i, Tw.fIn_iC, Tw.fIn_iL, Tw.fNotIn_iC, Tw.fIn_P, Tw.fNotIn_P, Tw.fNotIn_C, Tw.fLt_C, Tw.fLt_i, Tw.fGt_i, Tw.fLe_i, Tw.fGe_i, Tw.atI_0, Tw.atI_1, Tw.atI_2, true_and, and_true, eq_self, g_need_town, hw]
  refine ⟨by omega, by omega, by omega, ?_⟩
  rw [rng0_ir]
  refine forD_fold (l := ir 0 n) .int (fun (L : List (List Int)) δ => ∃ a b c d, δ = [some (.d (encT n cs)), some (.own (L.map encC)), a, b, c, d]) (fun L p => L ++ [lotR cs p]) [] ⟨none, none, none, none, rfl⟩ (fun k p δ R hk ⟨a, b, c, d, hδ⟩ hR => ?_) (fun δ ⟨a, b, c, d, hδ⟩ => ?_)
  · subst hδ
    simp only [v_var, v_c, v_g2, v_gN, v_op, v_B, v_chain, v_and, v_or, v_not, v_andV, v_orV, v_notV, v_if, v_nil, v_cons, v_tup, v_lst, v_call, v_fn, v_next, v_seq, v_break, v_contS, v_drop, v_ret, v_retN, v_retOwn, v_retOwnN, v_ifS, v_never, v_asg, v_gname, v_gnil, v_gcons, v_gtup, v_is1, v_is2, v_tru, v_noPart, v_part, v_cut, v_dnew, v_fdnew, v_flst, v_flstRg, v_span, v_rg1, v_rg2, v_frep, v_fdict, v_asgF, v_append, v_extend, v_popAt, v_pop, v_augIx, v_for, v_while, v_any, v_range1, v_range2, v_zip, v_enumT, v_enum, v_vals, v_items, v_yes, v_lc, v_lcOwn, v_lc2, v_all, v_dc, v_dcOwn, v_par, v_parF, v_par3F, v_par3L, v_inN, v_dget, v_dput, v_daug, v_rel, opt_some, opt_none, opt_ite, opt_map, isD_d, isB_b, isI_i, isL_l, isT'_t, isDict_d, isDV_d, dat1_d, dat2_d, vget_d, vget_row, vget_own, vget_oN, ownL_o, ownN_o, look_nil, look_zero, look_succ, cont_d, cont_vw, rd_d', rd_own', dd_d', dd_oN', startD, List.map_cons, List.map_nil, List.length_cons, List.length_nil, List.replicate, List.cons_append, List.nil_append, List.append_nil, List.set_cons_zero, List.set_cons_succ, List.set_nil, hide, wipeD, noOwn, datas, conts, rds, Nat.reduceAdd, Nat.reduceSub, List.all_cons, List.all_nil, DV.isOwn, fAdd, fInt, fSub, fFDiv, fMod, fMul, fIs, fIsNot, fIx, fCut, isT, cLen, cTuple, cList, cSum, cMax, cMin, cInt, cStr, truD, seqD, zipOf, isNone, fAddI, Bool.not_true, Bool.not_false, Bool.and_true, Bool.true_and, Bool.and_false, Bool.false_and, Bool.or_true, Bool.true_or, Bool.or_false, Bool.false_or, if_true, if_false, Bool.false_eq_true, ite_true, ite_false, reduceCtorEq, Tw.fEq_i, Tw.fNe_i, Tw.fIn_i, Tw.fIn_iC, Tw.fIn_iL, Tw.fNotIn_iC, Tw.fIn_P, Tw.fNotIn_P, Tw.fNotIn_C, Tw.fLt_C, Tw.fLt_i, Tw.fGt_i, Tw.fLe_i, Tw.fGe_i, Tw.atI_0, Tw.atI_1, Tw.atI_2, true_and, and_true, eq_self]
    rw [mapE]
    refine lcD_fmap (fun q : List Int × Nat => pairD (.int (q.2 : Nat)) (encC q.1)) (fun q => decide (p ∈ q.1)) (fun q => .int (q.2 : Nat)) (by rw [List.length_zipIdx]; omega) (fun q hq R Z => ?_) ?_
    · simp only [v_var, v_c, v_g2, v_gN, v_op, v_B, v_chain, v_and, v_or, v_not, v_andV, v_orV, v_notV, v_if, v_nil, v_cons, v_tup, v_lst, v_call, v_fn, v_next, v_seq, v_break, v_contS, v_drop, v_ret, v_retN, v_retOwn, v_retOwnN, v_ifS, v_never, v_asg, v_gname, v_gnil, v_gcons, v_gtup, v_is1, v_is2, v_tru, v_noPart, v_part, v_cut, v_dnew, v_fdnew, v_flst, v_flstRg, v_span, v_rg1, v_rg2, v_frep, v_fdict, v_asgF, v_append, v_extend, v_popAt, v_pop, v_augIx, v_for, v_while, v_any, v_range1, v_range2, v_zip, v_enumT, v_enum, v_vals, v_items, v_yes, v_lc, v_lcOwn, v_lc2, v_all, v_dc, v_dcOwn, v_par, v_parF, v_par3F, v_par3L, v_inN, v_dget, v_dput, v_daug, v_rel, opt_some, opt_none, opt_ite, opt_map, isD_d, isB_b, isI_i, isL_l, isT'_t, isDict_d, isDV_d, dat1_d, dat2_d, vget_d, vget_row, vget_own, vget_oN, ownL_o, ownN_o, look_nil, look_zero, look_succ, cont_d, cont_vw, rd_d', rd_own', dd_d', dd_oN', startD, List.map_cons, List.map_nil, List.length_cons, List.length_nil, List.replicate, List.cons_append, List.nil_append, List.append_nil, List.set_cons_zero, List.set_cons_succ, List.set_nil, hide, wipeD, noOwn, datas, conts, rds, Nat.reduceAdd, Nat.reduceSub, List.all_cons, List.all_nil, DV.isOwn, fAdd, fInt, fSub, fFDiv, fMod, fMul, fIs, fIsNot, fIx, fCut, isT, cLen, cTuple, cList, cSum, cMax, cMin, cInt, cStr, truD, seqD, zipOf, isNone, fAddI, Bool.not_true, Bool.not_false, Bool.and_true, Bool.true_and, Bool.and_false, Bool.false_and, Bool.or_true, Bool.true_or, Bool.or_false, Bool.false_or, if_true, if_false, Bool.false_eq_true, ite_true, ite_false, reduceCtorEq, Tw.fEq_i, Tw.fNe_i, Tw.fIn_i, Tw.fIn_iC, Tw.fIn_iL, Tw.fNotIn_iC, Tw.fIn_P, Tw.fNotIn_P, Tw.fNotIn_C, Tw.fLt_C, Tw.fLt_i, Tw.fGt_i, Tw.fLe_i, Tw.fGe_i, Tw.atI_0, Tw.atI_1, Tw.atI_2, true_and, and_true, eq_self, pairD]
      cases h5 : decide (p ∈ q.1) <;> rw [h5] at Z <;> simpa using Z
    have e : ((cs.zipIdx 0).filter fun q => decide (p ∈ q.1)).map (fun q => PyData.int (q.2 : Nat)) = (lotR cs p).map .int := by
      rw [← lot_idx, List.map_map]; rfl
    rw [e]
    have hk' : k < (ir 0 n).length := (List.getElem?_eq_some_iff.mp hk).1
    rw [ir_length] at hk'
    refine ⟨?_, hR _ ⟨some (.d (.int p)), b, c, d, ?_⟩⟩
    · rw [foldl_map1, List.nil_append, List.length_map, List.length_map, List.length_take]
      omega
    · rw [foldl_step hk, List.map_append]; rfl
  · subst hδ
    rw [foldl_map1, List.nil_append]
    simp only [v_var, v_c, v_g2, v_gN, v_op, v_B, v_chain, v_and, v_or, v_not, v_andV, v_orV, v_notV, v_if, v_nil, v_cons, v_tup, v_lst, v_call, v_fn, v_next, v_seq, v_break, v_contS, v_drop, v_ret, v_retN, v_retOwn, v_retOwnN, v_ifS, v_never, v_asg, v_gname, v_gnil, v_gcons, v_gtup, v_is1, v_is2, v_tru, v_noPart, v_part, v_cut, v_dnew, v_fdnew, v_flst, v_flstRg, v_span, v_rg1, v_rg2, v_frep, v_fdict, v_asgF, v_append, v_extend, v_popAt, v_pop, v_augIx, v_for, v_while, v_any, v_range1, v_range2, v_zip, v_enumT, v_enum, v_vals, v_items, v_yes, v_lc, v_lcOwn, v_lc2, v_all, v_dc, v_dcOwn, v_par, v_parF, v_par3F, v_par3L, v_inN, v_dget, v_dput, v_daug, v_rel, opt_some, opt_none, opt_ite, opt_map, isD_d, isB_b, isI_i, isL_l, isT'_t, isDict_d, isDV_d, dat1_d, dat2_d, vget_d, vget_row, vget_own, vget_oN, ownL_o, ownN_o, look_nil, look_zero, look_succ, cont_d, cont_vw, rd_d', rd_own', dd_d', dd_oN', startD, List.map_cons, List.map_nil, List.length_cons, List.length_nil, List.replicate, List.cons_append, List.nil_append, List.append_nil, List.set_cons_zero, List.set_cons_succ, List.set_nil, hide, wipeD, noOwn, datas, conts, rds, Nat.reduceAdd, Nat.reduceSub, List.all_cons, List.all_nil, DV.isOwn, fAdd, fInt, fSub, fFDiv, fMod, fMul, fIs, fIsNot, fIx, fCut, isT, cLen, cTuple, cList, cSum, cMax, cMin, cInt, cStr, truD, seqD, zipOf, isNone, fAddI, Bool.not_true, Bool.not_false, Bool.and_true, Bool.true_and, Bool.and_false, Bool.false_and, Bool.or_true, Bool.true_or, Bool.or_false, Bool.false_or, if_true, if_false, Bool.false_eq_true, ite_true, ite_false, reduceCtorEq, Tw.fEq_i, Tw.fNe_i, Tw.fIn_i, Tw.fIn_iC, Tw.fIn_iL, Tw.fNotIn_iC, Tw.fIn_P, Tw.fNotIn_P, Tw.fNotIn_C, Tw.fLt_C, Tw.fLt_i, Tw.fGt_i, Tw.fLe_i, Tw.fGe_i, Tw.atI_0, Tw.atI_1, Tw.atI_2, true_and, and_true, eq_self, cSorted, sortOk_C', sortD_C, g_is_town]
    rw [List.length_map]
    refine ⟨by omega, ?_⟩
    change if isNone (wrongW (encT (cs.length : Nat) (srtC (lotsN n cs)))) = true then QD (encT (cs.length : Nat) (srtC (lotsN n cs))) else QD .none
    rw [good_iff (by omega)]
    split at h2
    · rename_i h5
      rw [if_pos h5]; exact h2
    · rename_i h5
      rw [if_neg h5]; exact h2
end
end K4
namespace K4
open PySem PySem.Spec L2 DL Tw
abbrev s_law : Stmt := topS 31
abbrev nLaw : List Str := ["script", "row", "town", "people", "want", "clubs", "left", "club", "one", "person", "some", "at", "other", "due", "apart", "lots", "number", "good", "lot", "told"]
theorem sc_law : FnScope nLaw ["script"] (defScope s_law) := ⟨rfl, rfl, rfl, by decide +kernel, rfl, by decide +kernel, by decide +kernel⟩
theorem alk_C (n : Nat) {c : List Int} (h : c.length ≤ 1000) : Alk (n + 2) (encC c) := by
  have hs := PySem.sizeLine_eq
  exact ⟨by rw [List.length_map]; omega, fun x hx => by obtain ⟨i, _, rfl⟩ := List.mem_map.mp hx; exact trivial⟩
theorem alk_Ct (n : Nat) {cs : List (List Int)} (h : cs.length ≤ 1000) (h2 : ∀ c ∈ cs, c.length ≤ 1000) : Alk (n + 3) (.tuple (cs.map encC)) := by
  have hs := PySem.sizeLine_eq
  exact ⟨by rw [List.length_map]; omega, fun x hx => by obtain ⟨i, hi, rfl⟩ := List.mem_map.mp hx; exact alk_C n (h2 i hi)⟩
theorem alk_T (n : Nat) {m : Int} {cs : List (List Int)} (h : cs.length ≤ 1000) (h2 : ∀ c ∈ cs, c.length ≤ 1000) : Alk (n + 4) (encT m cs) := by
  have hs := PySem.sizeLine_eq
  refine ⟨by simp; omega, fun x hx => ?_⟩
  simp only [List.mem_cons, List.not_mem_nil, or_false] at hx
  rcases hx with rfl | rfl
  · exact trivial
  · exact alk_Ct n h h2
theorem three_size : 3 ≤ sizeLine := by decide
section
variable {P : Program} {w : World} {K : PySem.W.Frag} {mg : Str → Option Value} {base : Heap} {T : List Addr}
theorem ok_law {f c : Addr} {oc : Value} {od : Option Addr} {kV doc pm : Value} {an : Option Addr} {ct : Value} {osl : Array (Option Value)} (Tx : Txt mg)
    (lk : K.lookup f = some ⟨oc, od, .func (PySem.W.fnOf "law" "law" (defArgs s_law) (defBody s_law) (defScope s_law) .none kV doc pm an (.ref c) ct), osl⟩) (hcd : PySem.W.codeIn K (.ref c) "law" = true)
    (c__law_alike : Cal P w K mg base T 6 "_law_alike" ["found", "due"] (g__law_alike 6)) (c__law_any_town : Cal P w K mg base T 3 "_law_any_town" ["row", "most"] (g__law_any_town)) (c__law_clubs : Cal P w K mg base T 2 "_law_clubs" ["people"] (g__law_clubs)) (c__law_pair_town : Cal P w K mg base T 4 "_law_pair_town" ["row", "most"] (g__law_pair_town)) (c__law_pick : Cal P w K mg base T 2 "_law_pick" ["row", "things"] (g__law_pick)) (c__law_taken : Cal P w K mg base T 1 "_law_taken" ["row", "many"] (g__law_taken)) (c_is_evenly_shared : Cal P w K mg base T 7 "is_evenly_shared" ["town"] (g_is_evenly_shared)) (c_is_town : Cal P w K mg base T 6 "is_town" ["value"] (g_is_town)) (c_shares : Cal P w K mg base T 7 "shares" ["town"] (g_shares)) (c_turned : Cal P w K mg base T 7 "turned" ["town"] (g_turned)) :
    FnOk P w K mg base (L2.CX P w) 9 f (PySem.W.fnOf "law" "law" (defArgs s_law) (defBody s_law) (defScope s_law) .none kV doc pm an (.ref c) ct) ["script"] (spLaw K T) := by
  have nd := sc_law.nd
  obtain ⟨tl3, hT3, hM3⟩ : ∃ tl : TSD, (∀ (A : Around) (outer : List Env) (s : Shared) (H : Hp) (E : XK), BodyOk (cxOf (L2.CX P w) P w K mg base nLaw "law" (defScope s_law) f (.ref c) A outer s H E) ⟨T, E, fun _ => False⟩ 8 →
        PSsD (cxOf (L2.CX P w) P w K mg base nLaw "law" (defScope s_law) f (.ref c) A outer s H E) ⟨T, E, fun _ => False⟩ ((defBody s_law).drop 14) tl) ∧
      ∀ (n : Int) (cs : List (List Int)) (b e g x8 x9 s p q u v : Option DV), TownS n cs → n ≤ 7 → cs.length ≤ 64 → tl { nx := fun _ => False, rt := fun d => d = .bool true } [none, some .row, some (.d (encT n cs)), some (.d (.int n)), b, some (.d (.tuple (cs.map encC))), e, g, x8, x9, s, p, q, u, v, some (.d (.list ((lotsN n cs).map encC))), none, some (.d (.bool (goodB n cs))), none, none] := by
    refine ⟨_, fun A outer s H E B => (psd_cons (psd_set (i := 19) nd rfl (by first | exact .inl rfl | exact .inr rfl) (pd_callC c_turned (B.room.mono (by first | decide | exact Nat.le_refl _)) B.pass (pad_cons (pd_var (pv 2)) pad_nil)))
    (psd_cons (psd_if (ptd_not (ptd_val (pd_callC c__law_alike (B.room.mono (by first | decide | exact Nat.le_refl _)) B.pass (pad_cons (pd_var (pv 19)) (pad_cons (pd_ifExp (ptd_tru (pd_var (pv 17))) (pd_tup (pad_cons (pd_callB (call_lenD) (by rfl) Tx.len bt_len (pad_cons (pd_var (pv 5)) pad_nil)) (pad_cons (pd_callTy (call_tupleD) (by rfl) Tx.tuple bt_tuple (pad_cons (pd_callB (call_sortedD (B.room.u100)) (by rfl) Tx.sorted bt_sorted (pad_cons (pd_var (pv 15)) pad_nil)) pad_nil)) pad_nil))) pd_non) pad_nil))))) (psd_one (psd_ret pd_bl))
    psd_nil)
    (psd_one (psd_ret (pd_or (pd_cmp op_isD (pd_var (pv 19)) pd_non (by rfl)) (pd_one (pd_cmp op_isD (pd_callC c_is_town (B.room.mono (by first | decide | exact Nat.le_refl _)) B.pass (pad_cons (pd_var (pv 19)) pad_nil)) pd_bl (by rfl)))))))), ?_⟩
    intro n cs b e g x8 x9 s p q u v ht hn hcl
    have hs := PySem.sizeLine_eq
    have hlo := ht.lo
    have hhi := ht.hi
    simp only [v_var, v_c, v_g2, v_gN, v_op, v_B, v_chain, v_and, v_or, v_not, v_andV, v_orV, v_notV, v_if, v_nil, v_cons, v_tup, v_lst, v_call, v_fn, v_next, v_seq, v_break, v_contS, v_drop, v_ret, v_retN, v_retOwn, v_retOwnN, v_ifS, v_never, v_asg, v_gname, v_gnil, v_gcons, v_gtup, v_is1, v_is2, v_tru, v_noPart, v_part, v_cut, v_dnew, v_fdnew, v_flst, v_flstRg, v_span, v_rg1, v_rg2, v_frep, v_fdict, v_asgF, v_append, v_extend, v_popAt, v_pop, v_augIx, v_for, v_while, v_any, v_range1, v_range2, v_zip, v_enumT, v_enum, v_vals, v_items, v_yes, v_lc, v_lcOwn, v_lc2, v_all, v_dc, v_dcOwn, v_par, v_parF, v_par3F, v_par3L, v_inN, v_dget, v_dput, v_daug, v_rel, opt_some, opt_none, opt_ite, opt_map, isD_d, isB_b, isI_i, isL_l, isT'_t, isDict_d, isDV_d, dat1_d, dat2_d, vget_d, vget_row, vget_own, vget_oN, ownL_o, ownN_o, look_nil, look_zero, look_succ, cont_d, cont_vw, rd_d', rd_own', dd_d', dd_oN', startD, List.map_cons, List.map_nil, List.length_cons, List.length_nil, List.replicate, List.cons_append, List.nil_append, List.append_nil, List.set_cons_zero, List.set_cons_succ, List.set_nil, hide, wipeD, noOwn, datas, conts, rds, Nat.reduceAdd, Nat.reduceSub, List.all_cons, List.all_nil, DV.isOwn, fAdd, fInt, fSub, fFDiv, fMod, fMul, fIs, fIsNot, fIx, fCut, isT, cLen, cTuple, cList, cSum, cMax, cMin, cInt, cStr, truD, seqD, zipOf, isNone, fAddI, Bool.not_true, Bool.not_false, Bool.and_true, Bool.true_and, Bool.and_false, Bool.false_and, Bool.or_true, Bool.true_or, Bool.or_false, Bool.false_or, if_true, if_false, Bool.false_eq_true, ite_true, ite_false, reduceCtorEq, Tw.fEq_i, Tw.fNe_i, Tw.fIn_i, Tw.fIn_iC, Tw.fIn_iL, Tw.fNotIn_iC, Tw.fIn_P, Tw.fNotIn_P, Tw.fNotIn_C, Tw.fLt_C, Tw.fLt_i, Tw.fGt_i, Tw.fLe_i, Tw.fGe_i, Tw.atI_0, Tw.atI_1, Tw.atI_2, true_and, and_true, eq_self, v_fknew, v_sortK, v_setSort, v_lenSetT, v_kput, ownK_o,  g_turned]
    refine ⟨n, cs, rfl, ht, ?_⟩
    have hg := good_iff (n := n) (cs := cs) (by omega)
    cases h : goodB n cs
    · simp only [v_var, v_c, v_g2, v_gN, v_op, v_B, v_chain, v_and, v_or, v_not, v_andV, v_orV, v_notV, v_if, v_nil, v_cons, v_tup, v_lst, v_call, v_fn, v_next, v_seq, v_break, v_contS, v_drop, v_ret, v_retN, v_retOwn, v_retOwnN, v_ifS, v_never, v_asg, v_gname, v_gnil, v_gcons, v_gtup, v_is1, v_is2, v_tru, v_noPart, v_part, v_cut, v_dnew, v_fdnew, v_flst, v_flstRg, v_span, v_rg1, v_rg2, v_frep, v_fdict, v_asgF, v_append, v_extend, v_popAt, v_pop, v_augIx, v_for, v_while, v_any, v_range1, v_range2, v_zip, v_enumT, v_enum, v_vals, v_items, v_yes, v_lc, v_lcOwn, v_lc2, v_all, v_dc, v_dcOwn, v_par, v_parF, v_par3F, v_par3L, v_inN, v_dget, v_dput, v_daug, v_rel, opt_some, opt_none, opt_ite, opt_map, isD_d, isB_b, isI_i, isL_l, isT'_t, isDict_d, isDV_d, dat1_d, dat2_d, vget_d, vget_row, vget_own, vget_oN, ownL_o, ownN_o, look_nil, look_zero, look_succ, cont_d, cont_vw, rd_d', rd_own', dd_d', dd_oN', startD, List.map_cons, List.map_nil, List.length_cons, List.length_nil, List.replicate, List.cons_append, List.nil_append, List.append_nil, List.set_cons_zero, List.set_cons_succ, List.set_nil, hide, wipeD, noOwn, datas, conts, rds, Nat.reduceAdd, Nat.reduceSub, List.all_cons, List.all_nil, DV.isOwn, fAdd, fInt, fSub, fFDiv, fMod, fMul, fIs, fIsNot, fIx, fCut, isT, cLen, cTuple, cList, cSum, cMax, cMin, cInt, cStr, truD, seqD, zipOf, isNone, fAddI, Bool.not_true, Bool.not_false, Bool.and_true, Bool.true_and, Bool.and_false, Bool.false_and, Bool.or_true, Bool.true_or, Bool.or_false, Bool.false_or, if_true, if_false, Bool.false_eq_true, ite_true, ite_false, reduceCtorEq, Tw.fEq_i, Tw.fNe_i, Tw.fIn_i, Tw.fIn_iC, Tw.fIn_iL, Tw.fNotIn_iC, Tw.fIn_P, Tw.fNotIn_P, Tw.fNotIn_C, Tw.fLt_C, Tw.fLt_i, Tw.fGt_i, Tw.fLe_i, Tw.fGe_i, Tw.atI_0, Tw.atI_1, Tw.atI_2, true_and, and_true, eq_self, g__law_alike]
      trivial
    · rw [h] at hg
      simp only [v_var, v_c, v_g2, v_gN, v_op, v_B, v_chain, v_and, v_or, v_not, v_andV, v_orV, v_notV, v_if, v_nil, v_cons, v_tup, v_lst, v_call, v_fn, v_next, v_seq, v_break, v_contS, v_drop, v_ret, v_retN, v_retOwn, v_retOwnN, v_ifS, v_never, v_asg, v_gname, v_gnil, v_gcons, v_gtup, v_is1, v_is2, v_tru, v_noPart, v_part, v_cut, v_dnew, v_fdnew, v_flst, v_flstRg, v_span, v_rg1, v_rg2, v_frep, v_fdict, v_asgF, v_append, v_extend, v_popAt, v_pop, v_augIx, v_for, v_while, v_any, v_range1, v_range2, v_zip, v_enumT, v_enum, v_vals, v_items, v_yes, v_lc, v_lcOwn, v_lc2, v_all, v_dc, v_dcOwn, v_par, v_parF, v_par3F, v_par3L, v_inN, v_dget, v_dput, v_daug, v_rel, opt_some, opt_none, opt_ite, opt_map, isD_d, isB_b, isI_i, isL_l, isT'_t, isDict_d, isDV_d, dat1_d, dat2_d, vget_d, vget_row, vget_own, vget_oN, ownL_o, ownN_o, look_nil, look_zero, look_succ, cont_d, cont_vw, rd_d', rd_own', dd_d', dd_oN', startD, List.map_cons, List.map_nil, List.length_cons, List.length_nil, List.replicate, List.cons_append, List.nil_append, List.append_nil, List.set_cons_zero, List.set_cons_succ, List.set_nil, hide, wipeD, noOwn, datas, conts, rds, Nat.reduceAdd, Nat.reduceSub, List.all_cons, List.all_nil, DV.isOwn, fAdd, fInt, fSub, fFDiv, fMod, fMul, fIs, fIsNot, fIx, fCut, isT, cLen, cTuple, cList, cSum, cMax, cMin, cInt, cStr, truD, seqD, zipOf, isNone, fAddI, Bool.not_true, Bool.not_false, Bool.and_true, Bool.true_and, Bool.and_false, Bool.false_and, Bool.or_true, Bool.true_or, Bool.or_false, Bool.false_or, if_true, if_false, Bool.false_eq_true, ite_true, ite_false, reduceCtorEq, Tw.fEq_i, Tw.fNe_i, Tw.fIn_i, Tw.fIn_iC, Tw.fIn_iL, Tw.fNotIn_iC, Tw.fIn_P, Tw.fNotIn_P, Tw.fNotIn_C, Tw.fLt_C, Tw.fLt_i, Tw.fGt_i, Tw.fLe_i, Tw.fGe_i, Tw.atI_0, Tw.atI_1, Tw.atI_2, true_and, and_true, eq_self, g__law_alike, cSorted, sortOk_C', sortD_C, g_is_town, isNone_iff.mp hg, List.length_map]
      refine ⟨two_size, alk_T 2 ?_ ?_, by simp⟩
      · rw [srtC_len, lotsN, List.length_map, ir_length]; omega
      · intro l hl
        obtain ⟨p, _, rfl⟩ := List.mem_map.mp (mem_srtC.mp hl)
        have := lotR_len cs p
        omega
  obtain ⟨tl2, hT2, hM2⟩ : ∃ tl : TSD, (∀ (A : Around) (outer : List Env) (s : Shared) (H : Hp) (E : XK), BodyOk (cxOf (L2.CX P w) P w K mg base nLaw "law" (defScope s_law) f (.ref c) A outer s H E) ⟨T, E, fun _ => False⟩ 8 →
        PSsD (cxOf (L2.CX P w) P w K mg base nLaw "law" (defScope s_law) f (.ref c) A outer s H E) ⟨T, E, fun _ => False⟩ ((defBody s_law).drop 9) tl) ∧
      ∀ (n : Int) (cs : List (List Int)) (b e g x8 x9 s p q u : Option DV), TownS n cs → n ≤ 7 → cs.length ≤ 64 → tl { nx := fun _ => False, rt := fun d => d = .bool true } [none, some .row, some (.d (encT n cs)), some (.d (.int n)), b, some (.d (.tuple (cs.map encC))), e, g, x8, x9, s, p, q, u, none, none, none, none, none, none] := by
    refine ⟨_, fun A outer s H E B => (psd_cons (psd_set (i := 14) nd rfl (by first | exact .inl rfl | exact .inr rfl) (pd_callC c__law_pick (B.room.mono (by first | decide | exact Nat.le_refl _)) B.pass (pad_cons (pd_var (pv 1)) (pad_cons (pd_lst (pad_cons (pd_tup (pad_cons (pd_tup (pad_cons pd_int (pad_cons pd_int pad_nil))) (pad_cons (pd_tup (pad_cons pd_int (pad_cons pd_int pad_nil))) pad_nil))) (pad_cons (pd_tup (pad_cons (pd_tup (pad_cons pd_int (pad_cons pd_int pad_nil))) (pad_cons (pd_tup (pad_cons pd_int (pad_cons pd_int pad_nil))) (pad_cons (pd_tup (pad_cons pd_int (pad_cons pd_int pad_nil))) pad_nil)))) (pad_cons (pd_tup (pad_cons (pd_tup (pad_cons pd_int (pad_cons pd_int (pad_cons pd_int pad_nil)))) (pad_cons (pd_tup (pad_cons pd_int (pad_cons pd_int (pad_cons pd_int pad_nil)))) pad_nil))) pad_nil)))) pad_nil))))
    (psd_cons (psd_if (ptd_cmp op_isNotD (pd_callC c_is_evenly_shared (B.room.mono (by first | decide | exact Nat.le_refl _)) B.pass (pad_cons (pd_tup (pad_cons pd_int (pad_cons (pd_var (pv 14)) pad_nil))) pad_nil)) pd_bl (by rfl)) (psd_one (psd_ret pd_bl))
    psd_nil)
    (psd_cons (psd_setLc (i := 15) (own := [("one", 8)]) rfl nd rfl rfl (sw_true rfl rfl rfl (by decide +kernel)) (pid_range1 (by rfl) Tx.range (pad_cons (pd_var (pv 3)) pad_nil)) (blkOk_by (by first | rfl | kernel_rfl)) (fun s H C cl fp => (pgd_name (pg_name (i := 8) nd rfl (by first | exact .inl rfl | exact .inr rfl)))) (fun s H C cl fp => ptsd_nil) (fun s H C cl fp => (pd_callTy (call_tupleD) (by rfl) Tx.tuple bt_tuple (pad_cons (pd_lc (own := [("number", 16)]) rfl nd (pid_range1 (by rfl) Tx.range (pad_cons (pd_callB (call_lenD) (by rfl) Tx.len bt_len (pad_cons (pd_var (pv 5)) pad_nil)) pad_nil)) (blkOk_by (by first | rfl | kernel_rfl)) (fun s H C cl fp => (pgd_name (pg_name (i := 16) nd rfl (by first | exact .inl rfl | exact .inr rfl)))) (fun s H C cl fp => (ptsd_one (ptd_cmp (op_inDD (B.room.u65)) (pd_var (pv 8)) (pd_ix ix_D (pd_var (pv 5)) (pd_var (pv 16)) (fun _ _ => rfl)) (by rfl)))) (fun s H C cl fp => (pd_var (pv 16)))) pad_nil))))
    (psd_cons (psd_set (i := 17) nd rfl (by first | exact .inl rfl | exact .inr rfl) (pd_and (pd_chain (op_leD (B.room.u64)) (op_leD (B.room.u64)) pd_int (pd_callB (call_lenD) (by rfl) Tx.len bt_len (pad_cons (pd_var (pv 5)) pad_nil)) pd_int) (pd_one (pd_cmp (op_eqDD (B.room.u64)) (pd_lenSetT (B.room.u64) rfl (by rfl) Tx.len (by rfl) Tx.set (pd_var (pv 15))) (pd_var (pv 3)) (by rfl)))))
    (psd_cons (psd_set (i := 17) nd rfl (by first | exact .inl rfl | exact .inr rfl) (pd_and (pd_var (pv 17)) (pd_one (pd_cmp (op_eqDD (B.room.u64)) (pd_lc (own := [("lot", 18)]) rfl nd (pid_any (pd_var (pv 15))) (blkOk_by (by first | rfl | kernel_rfl)) (fun s H C cl fp => (pgd_name (pg_name (i := 18) nd rfl (by first | exact .inl rfl | exact .inr rfl)))) (fun s H C cl fp => (ptsd_one (ptd_not (ptd_chain (op_ltD (B.room.u64)) (op_ltD (B.room.u64)) pd_int (pd_callB (call_lenD) (by rfl) Tx.len bt_len (pad_cons (pd_var (pv 18)) pad_nil)) (pd_callB (call_lenD) (by rfl) Tx.len bt_len (pad_cons (pd_var (pv 5)) pad_nil)))))) (fun s H C cl fp => (pd_var (pv 18)))) (pd_lst pad_nil) (by rfl)))))
    (hT3 A outer s H E B)))))), ?_⟩
    intro n cs b e g x8 x9 s p q u ht hn hcl
    have hs := PySem.sizeLine_eq
    have hlo := ht.lo
    have hhi := ht.hi
    simp only [v_var, v_c, v_g2, v_gN, v_op, v_B, v_chain, v_and, v_or, v_not, v_andV, v_orV, v_notV, v_if, v_nil, v_cons, v_tup, v_lst, v_call, v_fn, v_next, v_seq, v_break, v_contS, v_drop, v_ret, v_retN, v_retOwn, v_retOwnN, v_ifS, v_never, v_asg, v_gname, v_gnil, v_gcons, v_gtup, v_is1, v_is2, v_tru, v_noPart, v_part, v_cut, v_dnew, v_fdnew, v_flst, v_flstRg, v_span, v_rg1, v_rg2, v_frep, v_fdict, v_asgF, v_append, v_extend, v_popAt, v_pop, v_augIx, v_for, v_while, v_any, v_range1, v_range2, v_zip, v_enumT, v_enum, v_vals, v_items, v_yes, v_lc, v_lcOwn, v_lc2, v_all, v_dc, v_dcOwn, v_par, v_parF, v_par3F, v_par3L, v_inN, v_dget, v_dput, v_daug, v_rel, opt_some, opt_none, opt_ite, opt_map, isD_d, isB_b, isI_i, isL_l, isT'_t, isDict_d, isDV_d, dat1_d, dat2_d, vget_d, vget_row, vget_own, vget_oN, ownL_o, ownN_o, look_nil, look_zero, look_succ, cont_d, cont_vw, rd_d', rd_own', dd_d', dd_oN', startD, List.map_cons, List.map_nil, List.length_cons, List.length_nil, List.replicate, List.cons_append, List.nil_append, List.append_nil, List.set_cons_zero, List.set_cons_succ, List.set_nil, hide, wipeD, noOwn, datas, conts, rds, Nat.reduceAdd, Nat.reduceSub, List.all_cons, List.all_nil, DV.isOwn, fAdd, fInt, fSub, fFDiv, fMod, fMul, fIs, fIsNot, fIx, fCut, isT, cLen, cTuple, cList, cSum, cMax, cMin, cInt, cStr, truD, seqD, zipOf, isNone, fAddI, Bool.not_true, Bool.not_false, Bool.and_true, Bool.true_and, Bool.and_false, Bool.false_and, Bool.or_true, Bool.true_or, Bool.or_false, Bool.false_or, if_true, if_false, Bool.false_eq_true, ite_true, ite_false, reduceCtorEq, Tw.fEq_i, Tw.fNe_i, Tw.fIn_i, Tw.fIn_iC, Tw.fIn_iL, Tw.fNotIn_iC, Tw.fIn_P, Tw.fNotIn_P, Tw.fNotIn_C, Tw.fLt_C, Tw.fLt_i, Tw.fGt_i, Tw.fLe_i, Tw.fGe_i, Tw.atI_0, Tw.atI_1, Tw.atI_2, true_and, and_true, eq_self, v_fknew, v_sortK, v_setSort, v_lenSetT, v_kput, ownK_o,  g__law_pick, g_is_evenly_shared]
    refine ⟨two_size, two_size, two_size, two_size, two_size, two_size, three_size, three_size, three_size, two_size, three_size, by simp, three_size, fun x hx => ?_⟩
    have key : ∃ cs6, x = .tuple (cs6.map encC) ∧ TownS 6 cs6 ∧ evenB cs6 = false := by
      simp only [List.mem_cons, List.not_mem_nil, or_false] at hx
      rcases hx with rfl | rfl | rfl
      · exact ⟨[[0, 1], [2, 3]], rfl, ⟨⟨by decide, by decide, fun c hc => by simp only [List.mem_cons, List.not_mem_nil, or_false] at hc; rcases hc with rfl | rfl <;> exact ⟨by decide, by decide, by decide, by decide⟩, by decide⟩, by decide⟩, by decide⟩
      · exact ⟨[[0, 1], [2, 3], [4, 5]], rfl, ⟨⟨by decide, by decide, fun c hc => by simp only [List.mem_cons, List.not_mem_nil, or_false] at hc; rcases hc with rfl | rfl | rfl <;> exact ⟨by decide, by decide, by decide, by decide⟩, by decide⟩, by decide⟩, by decide⟩
      · exact ⟨[[0, 1, 2], [3, 4, 5]], rfl, ⟨⟨by decide, by decide, fun c hc => by simp only [List.mem_cons, List.not_mem_nil, or_false] at hc; rcases hc with rfl | rfl <;> exact ⟨by decide, by decide, by decide, by decide⟩, by decide⟩, by decide⟩, by decide⟩
    obtain ⟨cs6, rfl, t6, e6⟩ := key
    refine ⟨two_size, 6, cs6, rfl, t6, ?_⟩
    rw [e6, if_neg (by decide)]
    refine ⟨by omega, by omega, ?_⟩
    rw [rng0_ir]
    refine lcD_map .int (fun p => encC (lotR cs p)) (by rw [ir_length]; omega) (fun p hp R Z => ?_) ?_
    · simp only [v_var, v_c, v_g2, v_gN, v_op, v_B, v_chain, v_and, v_or, v_not, v_andV, v_orV, v_notV, v_if, v_nil, v_cons, v_tup, v_lst, v_call, v_fn, v_next, v_seq, v_break, v_contS, v_drop, v_ret, v_retN, v_retOwn, v_retOwnN, v_ifS, v_never, v_asg, v_gname, v_gnil, v_gcons, v_gtup, v_is1, v_is2, v_tru, v_noPart, v_part, v_cut, v_dnew, v_fdnew, v_flst, v_flstRg, v_span, v_rg1, v_rg2, v_frep, v_fdict, v_asgF, v_append, v_extend, v_popAt, v_pop, v_augIx, v_for, v_while, v_any, v_range1, v_range2, v_zip, v_enumT, v_enum, v_vals, v_items, v_yes, v_lc, v_lcOwn, v_lc2, v_all, v_dc, v_dcOwn, v_par, v_parF, v_par3F, v_par3L, v_inN, v_dget, v_dput, v_daug, v_rel, opt_some, opt_none, opt_ite, opt_map, isD_d, isB_b, isI_i, isL_l, isT'_t, isDict_d, isDV_d, dat1_d, dat2_d, vget_d, vget_row, vget_own, vget_oN, ownL_o, ownN_o, look_nil, look_zero, look_succ, cont_d, cont_vw, rd_d', rd_own', dd_d', dd_oN', startD, List.map_cons, List.map_nil, List.length_cons, List.length_nil, List.replicate, List.cons_append, List.nil_append, List.append_nil, List.set_cons_zero, List.set_cons_succ, List.set_nil, hide, wipeD, noOwn, datas, conts, rds, Nat.reduceAdd, Nat.reduceSub, List.all_cons, List.all_nil, DV.isOwn, fAdd, fInt, fSub, fFDiv, fMod, fMul, fIs, fIsNot, fIx, fCut, isT, cLen, cTuple, cList, cSum, cMax, cMin, cInt, cStr, truD, seqD, zipOf, isNone, fAddI, Bool.not_true, Bool.not_false, Bool.and_true, Bool.true_and, Bool.and_false, Bool.false_and, Bool.or_true, Bool.true_or, Bool.or_false, Bool.false_or, if_true, if_false, Bool.false_eq_true, ite_true, ite_false, reduceCtorEq, Tw.fEq_i, Tw.fNe_i, Tw.fIn_i, Tw.fIn_iC, Tw.fIn_iL, Tw.fNotIn_iC, Tw.fIn_P, Tw.fNotIn_P, Tw.fNotIn_C, Tw.fLt_C, Tw.fLt_i, Tw.fGt_i, Tw.fLe_i, Tw.fGe_i, Tw.atI_0, Tw.atI_1, Tw.atI_2, true_and, and_true, eq_self, List.length_map]
      refine ⟨by omega, by omega, ?_⟩
      rw [rng0_ir]
      refine lcD_filter .int (fun k => decide (p ∈ cs.getD k.toNat [])) (by rw [ir_length]; omega) (fun k hk R2 Z2 => ?_) ?_
      · have hx := mem_ir.mp hk
        have hat : atI (cs.map encC) k = some (encC (cs.getD k.toNat [])) := by
          rw [atI_map]
          unfold atI
          rw [ixN_get hx.1 (by omega), List.getD_eq_getElem?_getD]
          have : k.toNat < cs.length := by omega
          simp [this]
        simp only [v_var, v_c, v_g2, v_gN, v_op, v_B, v_chain, v_and, v_or, v_not, v_andV, v_orV, v_notV, v_if, v_nil, v_cons, v_tup, v_lst, v_call, v_fn, v_next, v_seq, v_break, v_contS, v_drop, v_ret, v_retN, v_retOwn, v_retOwnN, v_ifS, v_never, v_asg, v_gname, v_gnil, v_gcons, v_gtup, v_is1, v_is2, v_tru, v_noPart, v_part, v_cut, v_dnew, v_fdnew, v_flst, v_flstRg, v_span, v_rg1, v_rg2, v_frep, v_fdict, v_asgF, v_append, v_extend, v_popAt, v_pop, v_augIx, v_for, v_while, v_any, v_range1, v_range2, v_zip, v_enumT, v_enum, v_vals, v_items, v_yes, v_lc, v_lcOwn, v_lc2, v_all, v_dc, v_dcOwn, v_par, v_parF, v_par3F, v_par3L, v_inN, v_dget, v_dput, v_daug, v_rel, opt_some, opt_none, opt_ite, opt_map, isD_d, isB_b, isI_i, isL_l, isT'_t, isDict_d, isDV_d, dat1_d, dat2_d, vget_d, vget_row, vget_own, vget_oN, ownL_o, ownN_o, look_nil, look_zero, look_succ, cont_d, cont_vw, rd_d', rd_own', dd_d', dd_oN', startD, List.map_cons, List.map_nil, List.length_cons, List.length_nil, List.replicate, List.cons_append, List.nil_append, List.append_nil, List.set_cons_zero, List.set_cons_succ, List.set_nil, hide, wipeD, noOwn, datas, conts, rds, Nat.reduceAdd, Nat.reduceSub, List.all_cons, List.all_nil, DV.isOwn, fAdd, fInt, fSub, fFDiv, fMod, fMul, fIs, fIsNot, fIx, fCut, isT, cLen, cTuple, cList, cSum, cMax, cMin, cInt, cStr, truD, seqD, zipOf, isNone, fAddI, Bool.not_true, Bool.not_false, Bool.and_true, Bool.true_and, Bool.and_false, Bool.false_and, Bool.or_true, Bool.true_or, Bool.or_false, Bool.false_or, if_true, if_false, Bool.false_eq_true, ite_true, ite_false, reduceCtorEq, Tw.fEq_i, Tw.fNe_i, Tw.fIn_i, Tw.fIn_iC, Tw.fIn_iL, Tw.fNotIn_iC, Tw.fIn_P, Tw.fNotIn_P, Tw.fNotIn_C, Tw.fLt_C, Tw.fLt_i, Tw.fGt_i, Tw.fLe_i, Tw.fGe_i, Tw.atI_0, Tw.atI_1, Tw.atI_2, true_and, and_true, eq_self, hat]
        cases h : decide (p ∈ cs.getD k.toNat []) <;> rw [h] at Z2 <;> simpa using Z2
      · exact Z
    have elots : (ir 0 n).map (fun p => encC (lotR cs p)) = (lotsN n cs).map encC := by rw [lotsN, List.map_map]; rfl
    rw [elots, List.length_map]
    have fin : ∀ gb, gb = goodB n cs → tl3 { nx := fun _ => False, rt := fun d => d = .bool true } [none, some .row, some (.d (encT n cs)), some (.d (.int n)), b, some (.d (.tuple (cs.map encC))), e, g, x8, x9, s, p, q, u, some (DV.d (PyData.tuple (cs6.map encC))), some (.d (.list ((lotsN n cs).map encC))), none, some (.d (.bool gb)), none, none] := fun gb h => by
      rw [h]
      exact hM3 n cs b _ g x8 x9 s p q u _ ht hn hcl
    have hll : (lotsN n cs).length = n.toNat := by rw [lotsN, List.length_map, ir_length]; omega
    by_cases h3 : 3 ≤ (cs.length : Int)
    · rw [if_pos (decide_eq_true h3)]
      by_cases h31 : (cs.length : Int) ≤ 31
      · rw [if_pos (decide_eq_true h31), tupsOf_map, opt_some]
        refine ⟨by omega, ?_⟩
        by_cases hd : ((dedup (lotsN n cs)).length : Int) = n
        · rw [if_pos (decide_eq_true hd)]
          refine lcD_filter encC (fun l => !(decide (1 < (l.length : Int)) && decide ((l.length : Int) < cs.length))) (by omega) (fun l hl R2 Z2 => ?_) ?_
          · simp only [v_var, v_c, v_g2, v_gN, v_op, v_B, v_chain, v_and, v_or, v_not, v_andV, v_orV, v_notV, v_if, v_nil, v_cons, v_tup, v_lst, v_call, v_fn, v_next, v_seq, v_break, v_contS, v_drop, v_ret, v_retN, v_retOwn, v_retOwnN, v_ifS, v_never, v_asg, v_gname, v_gnil, v_gcons, v_gtup, v_is1, v_is2, v_tru, v_noPart, v_part, v_cut, v_dnew, v_fdnew, v_flst, v_flstRg, v_span, v_rg1, v_rg2, v_frep, v_fdict, v_asgF, v_append, v_extend, v_popAt, v_pop, v_augIx, v_for, v_while, v_any, v_range1, v_range2, v_zip, v_enumT, v_enum, v_vals, v_items, v_yes, v_lc, v_lcOwn, v_lc2, v_all, v_dc, v_dcOwn, v_par, v_parF, v_par3F, v_par3L, v_inN, v_dget, v_dput, v_daug, v_rel, opt_some, opt_none, opt_ite, opt_map, isD_d, isB_b, isI_i, isL_l, isT'_t, isDict_d, isDV_d, dat1_d, dat2_d, vget_d, vget_row, vget_own, vget_oN, ownL_o, ownN_o, look_nil, look_zero, look_succ, cont_d, cont_vw, rd_d', rd_own', dd_d', dd_oN', startD, List.map_cons, List.map_nil, List.length_cons, List.length_nil, List.replicate, List.cons_append, List.nil_append, List.append_nil, List.set_cons_zero, List.set_cons_succ, List.set_nil, hide, wipeD, noOwn, datas, conts, rds, Nat.reduceAdd, Nat.reduceSub, List.all_cons, List.all_nil, DV.isOwn, fAdd, fInt, fSub, fFDiv, fMod, fMul, fIs, fIsNot, fIx, fCut, isT, cLen, cTuple, cList, cSum, cMax, cMin, cInt, cStr, truD, seqD, zipOf, isNone, fAddI, Bool.not_true, Bool.not_false, Bool.and_true, Bool.true_and, Bool.and_false, Bool.false_and, Bool.or_true, Bool.true_or, Bool.or_false, Bool.false_or, if_true, if_false, Bool.false_eq_true, ite_true, ite_false, reduceCtorEq, Tw.fEq_i, Tw.fNe_i, Tw.fIn_i, Tw.fIn_iC, Tw.fIn_iL, Tw.fNotIn_iC, Tw.fIn_P, Tw.fNotIn_P, Tw.fNotIn_C, Tw.fLt_C, Tw.fLt_i, Tw.fGt_i, Tw.fLe_i, Tw.fGe_i, Tw.atI_0, Tw.atI_1, Tw.atI_2, true_and, and_true, eq_self, List.length_map]
            cases h5 : decide (1 < (l.length : Int)) <;> cases h6 : decide ((l.length : Int) < cs.length) <;> rw [h5, h6] at Z2 <;> simpa using Z2
          · rw [fEq_nil (k := 1) (fun x h => by obtain ⟨l, _, rfl⟩ := List.mem_map.mp h; exact sh_C l) (by decide), opt_some]
            refine ⟨Nat.zero_le _, fin _ ?_⟩
            unfold goodB
            rw [decide_eq_true h3, decide_eq_true h31, decide_eq_true hd, Bool.true_and, Bool.true_and, Bool.true_and, Bool.eq_iff_iff, decide_eq_true_eq, List.map_eq_nil_iff, List.filter_eq_nil_iff, List.all_eq_true]
            simp
        · rw [if_neg (by simpa using hd)]
          exact fin false (by simp [goodB, hd])
      · rw [if_neg (by simpa using h31)]
        exact fin false (by simp [goodB, h31])
    · rw [if_neg (by simpa using h3)]
      exact fin false (by simp [goodB, h3])
  obtain ⟨tl, hT, hM⟩ : ∃ tl : TSD, (∀ (A : Around) (outer : List Env) (s : Shared) (H : Hp) (E : XK), BodyOk (cxOf (L2.CX P w) P w K mg base nLaw "law" (defScope s_law) f (.ref c) A outer s H E) ⟨T, E, fun _ => False⟩ 8 →
        PSsD (cxOf (L2.CX P w) P w K mg base nLaw "law" (defScope s_law) f (.ref c) A outer s H E) ⟨T, E, fun _ => False⟩ ((defBody s_law).drop 3) tl) ∧
      ∀ (n : Int) (cs : List (List Int)) (a b d e g x8 x9 : Option DV), TownS n cs → n ≤ 7 → cs.length ≤ 64 → tl { nx := fun _ => False, rt := fun d => d = .bool true } ([none, some .row, some (.d (encT n cs)), a, b, d, e, g, x8, x9] ++ List.replicate 10 none) := by
    refine ⟨_, fun A outer s H E B => (psd_cons (psd_asg (vs := [3, 5]) (pd_var (pv 2)) (pgd_tup (n := 2) rfl (pgsd_cons (pgd_name (pg_name (i := 3) nd rfl (by first | exact .inl rfl | exact .inr rfl))) (pgsd_cons (pgd_name (pg_name (i := 5) nd rfl (by first | exact .inl rfl | exact .inr rfl))) pgsd_nil))))
    (psd_cons (psd_set (i := 10) nd rfl (by first | exact .inl rfl | exact .inr rfl) (pd_lst pad_nil))
    (psd_cons (psd_for (vs := [11]) B.own rfl (pid_range1 (by rfl) Tx.range (pad_cons (pd_callB (call_lenD) (by rfl) Tx.len bt_len (pad_cons (pd_var (pv 5)) pad_nil)) pad_nil)) (pgd_name (pg_name (i := 11) nd rfl (by first | exact .inl rfl | exact .inr rfl)))
    (psd_one (psd_set (i := 10) nd rfl (by first | exact .inl rfl | exact .inr rfl) (pd_op op_addD (pd_var (pv 10)) (pd_lc (own := [("other", 12)]) rfl nd (pid_any (pd_slice (pd_var (pv 5)) (pod_some (pd_op op_addD (pd_var (pv 11)) pd_int)) pod_none)) (blkOk_by (by first | rfl | kernel_rfl)) (fun s H C cl fp => (pgd_name (pg_name (i := 12) nd rfl (by first | exact .inl rfl | exact .inr rfl)))) (fun s H C cl fp => ptsd_nil) (fun s H C cl fp => (pd_callB (call_lenD) (by rfl) Tx.len bt_len (pad_cons (pd_lc (own := [("one", 8)]) rfl nd (pid_any (pd_ix ix_D (pd_var (pv 5)) (pd_var (pv 11)) (fun _ _ => rfl))) (blkOk_by (by first | rfl | kernel_rfl)) (fun s H C cl fp => (pgd_name (pg_name (i := 8) nd rfl (by first | exact .inl rfl | exact .inr rfl)))) (fun s H C cl fp => (ptsd_one (ptd_cmp (op_inDD (B.room.u65)) (pd_var (pv 8)) (pd_var (pv 12)) (by rfl)))) (fun s H C cl fp => (pd_var (pv 8)))) pad_nil))))))))
    (psd_cons (psd_set (i := 13) nd rfl (by first | exact .inl rfl | exact .inr rfl) (pd_callTy (call_tupleD) (by rfl) Tx.tuple bt_tuple (pad_cons (pd_setSort rfl (by rfl) Tx.sorted (by rfl) Tx.set (pd_var (pv 10))) pad_nil)))
    (psd_cons (psd_if (ptd_not (ptd_val (pd_callC c__law_alike (B.room.mono (by first | decide | exact Nat.le_refl _)) B.pass (pad_cons (pd_lst (pad_cons (pd_callC c_shares (B.room.mono (by first | decide | exact Nat.le_refl _)) B.pass (pad_cons (pd_var (pv 2)) pad_nil)) (pad_cons (pd_callC c_is_evenly_shared (B.room.mono (by first | decide | exact Nat.le_refl _)) B.pass (pad_cons (pd_var (pv 2)) pad_nil)) pad_nil))) (pad_cons (pd_lst (pad_cons (pd_var (pv 13)) (pad_cons (pd_and (pd_cmp (op_ltD (B.room.u64)) (pd_callB (call_lenD) (by rfl) Tx.len bt_len (pad_cons (pd_var (pv 13)) pad_nil)) pd_int (by rfl)) (pd_one (pd_cmp (op_notInDD (B.room.u65)) pd_int (pd_var (pv 13)) (by rfl)))) pad_nil))) pad_nil))))) (psd_one (psd_ret pd_bl))
    psd_nil)
    (psd_cons (psd_if (PWD.pt (pwd_and (ptd_val (pd_callC c_is_evenly_shared (B.room.mono (by first | decide | exact Nat.le_refl _)) B.pass (pad_cons (pd_var (pv 2)) pad_nil))) (pwd_and1 (ptd_cmp (op_gtD (B.room.u64)) (pd_callB (call_lenD) (by rfl) Tx.len bt_len (pad_cons (pd_var (pv 5)) pad_nil)) (pd_var (pv 3)) (by rfl))))) (psd_one (psd_ret pd_bl))
    psd_nil)
    (hT2 A outer s H E B))))))), ?_⟩
    intro n cs a b d e g x8 x9 ht hn hcl
    have hs := PySem.sizeLine_eq
    have hlo := ht.lo
    have hhi := ht.hi
    have hcle : ∀ c ∈ cs, c.length ≤ 1000 := fun c hc => by have := (ht.clubs c hc).less; omega
    simp only [v_var, v_c, v_g2, v_gN, v_op, v_B, v_chain, v_and, v_or, v_not, v_andV, v_orV, v_notV, v_if, v_nil, v_cons, v_tup, v_lst, v_call, v_fn, v_next, v_seq, v_break, v_contS, v_drop, v_ret, v_retN, v_retOwn, v_retOwnN, v_ifS, v_never, v_asg, v_gname, v_gnil, v_gcons, v_gtup, v_is1, v_is2, v_tru, v_noPart, v_part, v_cut, v_dnew, v_fdnew, v_flst, v_flstRg, v_span, v_rg1, v_rg2, v_frep, v_fdict, v_asgF, v_append, v_extend, v_popAt, v_pop, v_augIx, v_for, v_while, v_any, v_range1, v_range2, v_zip, v_enumT, v_enum, v_vals, v_items, v_yes, v_lc, v_lcOwn, v_lc2, v_all, v_dc, v_dcOwn, v_par, v_parF, v_par3F, v_par3L, v_inN, v_dget, v_dput, v_daug, v_rel, opt_some, opt_none, opt_ite, opt_map, isD_d, isB_b, isI_i, isL_l, isT'_t, isDict_d, isDV_d, dat1_d, dat2_d, vget_d, vget_row, vget_own, vget_oN, ownL_o, ownN_o, look_nil, look_zero, look_succ, cont_d, cont_vw, rd_d', rd_own', dd_d', dd_oN', startD, List.map_cons, List.map_nil, List.length_cons, List.length_nil, List.replicate, List.cons_append, List.nil_append, List.append_nil, List.set_cons_zero, List.set_cons_succ, List.set_nil, hide, wipeD, noOwn, datas, conts, rds, Nat.reduceAdd, Nat.reduceSub, List.all_cons, List.all_nil, DV.isOwn, fAdd, fInt, fSub, fFDiv, fMod, fMul, fIs, fIsNot, fIx, fCut, isT, cLen, cTuple, cList, cSum, cMax, cMin, cInt, cStr, truD, seqD, zipOf, isNone, fAddI, Bool.not_true, Bool.not_false, Bool.and_true, Bool.true_and, Bool.and_false, Bool.false_and, Bool.or_true, Bool.true_or, Bool.or_false, Bool.false_or, if_true, if_false, Bool.false_eq_true, ite_true, ite_false, reduceCtorEq, Tw.fEq_i, Tw.fNe_i, Tw.fIn_i, Tw.fIn_iC, Tw.fIn_iL, Tw.fNotIn_iC, Tw.fIn_P, Tw.fNotIn_P, Tw.fNotIn_C, Tw.fLt_C, Tw.fLt_i, Tw.fGt_i, Tw.fLe_i, Tw.fGe_i, Tw.atI_0, Tw.atI_1, Tw.atI_2, true_and, and_true, eq_self, v_fknew, v_sortK, v_setSort, v_lenSetT, v_kput, ownK_o,  List.length_map]
    refine ⟨Nat.zero_le _, by omega, by omega, ?_⟩
    rw [rng0_ir]
    refine forD_fold .int (fun L δ => ∃ p q, δ = [none, some .row, some (.d (encT n cs)), some (.d (.int n)), b, some (.d (.tuple (cs.map encC))), e, g, x8, x9, some (.d (.list (L.map .int))), p, q, none, none, none, none, none, none, none]) (fun L a => L ++ meetF cs a) [] ⟨none, none, rfl⟩ (fun k x δ R hk ⟨p, q, hδ⟩ hR => ?_) (fun δ ⟨p, q, hδ⟩ => ?_)
    · subst hδ
      have hx := mem_ir.mp (List.mem_of_getElem? hk)
      have hat : atI (cs.map encC) x = some (encC (cs.getD x.toNat [])) := by
        rw [atI_map]
        unfold atI
        rw [ixN_get hx.1 (by omega), List.getD_eq_getElem?_getD]
        have : x.toNat < cs.length := by omega
        simp [this]
      simp only [v_var, v_c, v_g2, v_gN, v_op, v_B, v_chain, v_and, v_or, v_not, v_andV, v_orV, v_notV, v_if, v_nil, v_cons, v_tup, v_lst, v_call, v_fn, v_next, v_seq, v_break, v_contS, v_drop, v_ret, v_retN, v_retOwn, v_retOwnN, v_ifS, v_never, v_asg, v_gname, v_gnil, v_gcons, v_gtup, v_is1, v_is2, v_tru, v_noPart, v_part, v_cut, v_dnew, v_fdnew, v_flst, v_flstRg, v_span, v_rg1, v_rg2, v_frep, v_fdict, v_asgF, v_append, v_extend, v_popAt, v_pop, v_augIx, v_for, v_while, v_any, v_range1, v_range2, v_zip, v_enumT, v_enum, v_vals, v_items, v_yes, v_lc, v_lcOwn, v_lc2, v_all, v_dc, v_dcOwn, v_par, v_parF, v_par3F, v_par3L, v_inN, v_dget, v_dput, v_daug, v_rel, opt_some, opt_none, opt_ite, opt_map, isD_d, isB_b, isI_i, isL_l, isT'_t, isDict_d, isDV_d, dat1_d, dat2_d, vget_d, vget_row, vget_own, vget_oN, ownL_o, ownN_o, look_nil, look_zero, look_succ, cont_d, cont_vw, rd_d', rd_own', dd_d', dd_oN', startD, List.map_cons, List.map_nil, List.length_cons, List.length_nil, List.replicate, List.cons_append, List.nil_append, List.append_nil, List.set_cons_zero, List.set_cons_succ, List.set_nil, hide, wipeD, noOwn, datas, conts, rds, Nat.reduceAdd, Nat.reduceSub, List.all_cons, List.all_nil, DV.isOwn, fAdd, fInt, fSub, fFDiv, fMod, fMul, fIs, fIsNot, fIx, fCut, isT, cLen, cTuple, cList, cSum, cMax, cMin, cInt, cStr, truD, seqD, zipOf, isNone, fAddI, Bool.not_true, Bool.not_false, Bool.and_true, Bool.true_and, Bool.and_false, Bool.false_and, Bool.or_true, Bool.true_or, Bool.or_false, Bool.false_or, if_true, if_false, Bool.false_eq_true, ite_true, ite_false, reduceCtorEq, Tw.fEq_i, Tw.fNe_i, Tw.fIn_i, Tw.fIn_iC, Tw.fIn_iL, Tw.fNotIn_iC, Tw.fIn_P, Tw.fNotIn_P, Tw.fNotIn_C, Tw.fLt_C, Tw.fLt_i, Tw.fGt_i, Tw.fLe_i, Tw.fGe_i, Tw.atI_0, Tw.atI_1, Tw.atI_2, true_and, and_true, eq_self, v_fknew, v_sortK, v_setSort, v_lenSetT, v_kput, ownK_o]
      rw [cut_fromI _ _ (by omega), show (x + 1).toNat = x.toNat + 1 by omega, ← List.map_drop]
      have hm : cs.getD x.toNat [] ∈ cs := by
        have : x.toNat < cs.length := by omega
        rw [List.getD_eq_getElem?_getD, List.getElem?_eq_getElem this]
        exact List.getElem_mem _
      refine lcD_map encC (fun y => .int (meet (cs.getD x.toNat []) y)) (by rw [List.length_drop]; omega) (fun y hy R Z => ?_) ?_
      · simp only [v_var, v_c, v_g2, v_gN, v_op, v_B, v_chain, v_and, v_or, v_not, v_andV, v_orV, v_notV, v_if, v_nil, v_cons, v_tup, v_lst, v_call, v_fn, v_next, v_seq, v_break, v_contS, v_drop, v_ret, v_retN, v_retOwn, v_retOwnN, v_ifS, v_never, v_asg, v_gname, v_gnil, v_gcons, v_gtup, v_is1, v_is2, v_tru, v_noPart, v_part, v_cut, v_dnew, v_fdnew, v_flst, v_flstRg, v_span, v_rg1, v_rg2, v_frep, v_fdict, v_asgF, v_append, v_extend, v_popAt, v_pop, v_augIx, v_for, v_while, v_any, v_range1, v_range2, v_zip, v_enumT, v_enum, v_vals, v_items, v_yes, v_lc, v_lcOwn, v_lc2, v_all, v_dc, v_dcOwn, v_par, v_parF, v_par3F, v_par3L, v_inN, v_dget, v_dput, v_daug, v_rel, opt_some, opt_none, opt_ite, opt_map, isD_d, isB_b, isI_i, isL_l, isT'_t, isDict_d, isDV_d, dat1_d, dat2_d, vget_d, vget_row, vget_own, vget_oN, ownL_o, ownN_o, look_nil, look_zero, look_succ, cont_d, cont_vw, rd_d', rd_own', dd_d', dd_oN', startD, List.map_cons, List.map_nil, List.length_cons, List.length_nil, List.replicate, List.cons_append, List.nil_append, List.append_nil, List.set_cons_zero, List.set_cons_succ, List.set_nil, hide, wipeD, noOwn, datas, conts, rds, Nat.reduceAdd, Nat.reduceSub, List.all_cons, List.all_nil, DV.isOwn, fAdd, fInt, fSub, fFDiv, fMod, fMul, fIs, fIsNot, fIx, fCut, isT, cLen, cTuple, cList, cSum, cMax, cMin, cInt, cStr, truD, seqD, zipOf, isNone, fAddI, Bool.not_true, Bool.not_false, Bool.and_true, Bool.true_and, Bool.and_false, Bool.false_and, Bool.or_true, Bool.true_or, Bool.or_false, Bool.false_or, if_true, if_false, Bool.false_eq_true, ite_true, ite_false, reduceCtorEq, Tw.fEq_i, Tw.fNe_i, Tw.fIn_i, Tw.fIn_iC, Tw.fIn_iL, Tw.fNotIn_iC, Tw.fIn_P, Tw.fNotIn_P, Tw.fNotIn_C, Tw.fLt_C, Tw.fLt_i, Tw.fGt_i, Tw.fLe_i, Tw.fGe_i, Tw.atI_0, Tw.atI_1, Tw.atI_2, true_and, and_true, eq_self, hat]
        refine lcD_filter .int (fun z => decide (z ∈ y)) (by have := hcle _ hm; omega) (fun z hz R2 Z2 => ?_) ?_
        · simp only [v_var, v_c, v_g2, v_gN, v_op, v_B, v_chain, v_and, v_or, v_not, v_andV, v_orV, v_notV, v_if, v_nil, v_cons, v_tup, v_lst, v_call, v_fn, v_next, v_seq, v_break, v_contS, v_drop, v_ret, v_retN, v_retOwn, v_retOwnN, v_ifS, v_never, v_asg, v_gname, v_gnil, v_gcons, v_gtup, v_is1, v_is2, v_tru, v_noPart, v_part, v_cut, v_dnew, v_fdnew, v_flst, v_flstRg, v_span, v_rg1, v_rg2, v_frep, v_fdict, v_asgF, v_append, v_extend, v_popAt, v_pop, v_augIx, v_for, v_while, v_any, v_range1, v_range2, v_zip, v_enumT, v_enum, v_vals, v_items, v_yes, v_lc, v_lcOwn, v_lc2, v_all, v_dc, v_dcOwn, v_par, v_parF, v_par3F, v_par3L, v_inN, v_dget, v_dput, v_daug, v_rel, opt_some, opt_none, opt_ite, opt_map, isD_d, isB_b, isI_i, isL_l, isT'_t, isDict_d, isDV_d, dat1_d, dat2_d, vget_d, vget_row, vget_own, vget_oN, ownL_o, ownN_o, look_nil, look_zero, look_succ, cont_d, cont_vw, rd_d', rd_own', dd_d', dd_oN', startD, List.map_cons, List.map_nil, List.length_cons, List.length_nil, List.replicate, List.cons_append, List.nil_append, List.append_nil, List.set_cons_zero, List.set_cons_succ, List.set_nil, hide, wipeD, noOwn, datas, conts, rds, Nat.reduceAdd, Nat.reduceSub, List.all_cons, List.all_nil, DV.isOwn, fAdd, fInt, fSub, fFDiv, fMod, fMul, fIs, fIsNot, fIx, fCut, isT, cLen, cTuple, cList, cSum, cMax, cMin, cInt, cStr, truD, seqD, zipOf, isNone, fAddI, Bool.not_true, Bool.not_false, Bool.and_true, Bool.true_and, Bool.and_false, Bool.false_and, Bool.or_true, Bool.true_or, Bool.or_false, Bool.false_or, if_true, if_false, Bool.false_eq_true, ite_true, ite_false, reduceCtorEq, Tw.fEq_i, Tw.fNe_i, Tw.fIn_i, Tw.fIn_iC, Tw.fIn_iL, Tw.fNotIn_iC, Tw.fIn_P, Tw.fNotIn_P, Tw.fNotIn_C, Tw.fLt_C, Tw.fLt_i, Tw.fGt_i, Tw.fLe_i, Tw.fGe_i, Tw.atI_0, Tw.atI_1, Tw.atI_2, true_and, and_true, eq_self]
          cases h : decide (z ∈ y) <;> rw [h] at Z2 <;> simpa using Z2
        · simp only [v_var, v_c, v_g2, v_gN, v_op, v_B, v_chain, v_and, v_or, v_not, v_andV, v_orV, v_notV, v_if, v_nil, v_cons, v_tup, v_lst, v_call, v_fn, v_next, v_seq, v_break, v_contS, v_drop, v_ret, v_retN, v_retOwn, v_retOwnN, v_ifS, v_never, v_asg, v_gname, v_gnil, v_gcons, v_gtup, v_is1, v_is2, v_tru, v_noPart, v_part, v_cut, v_dnew, v_fdnew, v_flst, v_flstRg, v_span, v_rg1, v_rg2, v_frep, v_fdict, v_asgF, v_append, v_extend, v_popAt, v_pop, v_augIx, v_for, v_while, v_any, v_range1, v_range2, v_zip, v_enumT, v_enum, v_vals, v_items, v_yes, v_lc, v_lcOwn, v_lc2, v_all, v_dc, v_dcOwn, v_par, v_parF, v_par3F, v_par3L, v_inN, v_dget, v_dput, v_daug, v_rel, opt_some, opt_none, opt_ite, opt_map, isD_d, isB_b, isI_i, isL_l, isT'_t, isDict_d, isDV_d, dat1_d, dat2_d, vget_d, vget_row, vget_own, vget_oN, ownL_o, ownN_o, look_nil, look_zero, look_succ, cont_d, cont_vw, rd_d', rd_own', dd_d', dd_oN', startD, List.map_cons, List.map_nil, List.length_cons, List.length_nil, List.replicate, List.cons_append, List.nil_append, List.append_nil, List.set_cons_zero, List.set_cons_succ, List.set_nil, hide, wipeD, noOwn, datas, conts, rds, Nat.reduceAdd, Nat.reduceSub, List.all_cons, List.all_nil, DV.isOwn, fAdd, fInt, fSub, fFDiv, fMod, fMul, fIs, fIsNot, fIx, fCut, isT, cLen, cTuple, cList, cSum, cMax, cMin, cInt, cStr, truD, seqD, zipOf, isNone, fAddI, Bool.not_true, Bool.not_false, Bool.and_true, Bool.true_and, Bool.and_false, Bool.false_and, Bool.or_true, Bool.true_or, Bool.or_false, Bool.false_or, if_true, if_false, Bool.false_eq_true, ite_true, ite_false, reduceCtorEq, Tw.fEq_i, Tw.fNe_i, Tw.fIn_i, Tw.fIn_iC, Tw.fIn_iL, Tw.fNotIn_iC, Tw.fIn_P, Tw.fNotIn_P, Tw.fNotIn_C, Tw.fLt_C, Tw.fLt_i, Tw.fGt_i, Tw.fLe_i, Tw.fGe_i, Tw.atI_0, Tw.atI_1, Tw.atI_2, true_and, and_true, eq_self, List.length_map]
          exact Z
      · refine ⟨?_, hR _ ⟨some (.d (.int x)), q, ?_⟩⟩
        · rw [foldl_app (meetF cs) _ [], List.nil_append, List.length_map, List.length_map, List.length_drop]
          have h1 : (((ir 0 (cs.length : Int)).take k).flatMap (meetF cs)).length ≤ ((ir 0 (cs.length : Int)).take k).length * 64 := len_flatMap_le (meetF cs) 64 _ (fun y hy => by
            rw [meetF, List.length_map, List.length_drop]; omega)
          have h2 : ((ir 0 (cs.length : Int)).take k).length ≤ 64 := by rw [List.length_take, ir_length]; omega
          have h3 : ((ir 0 (cs.length : Int)).take k).length * 64 ≤ 64 * 64 := Nat.mul_le_mul_right _ h2
          omega
        · rw [foldl_step hk, List.map_append, meetF, List.map_map]; rfl
    · subst hδ
      rw [foldl_app (meetF cs) _ [], List.nil_append, meet_all]
      simp only [v_var, v_c, v_g2, v_gN, v_op, v_B, v_chain, v_and, v_or, v_not, v_andV, v_orV, v_notV, v_if, v_nil, v_cons, v_tup, v_lst, v_call, v_fn, v_next, v_seq, v_break, v_contS, v_drop, v_ret, v_retN, v_retOwn, v_retOwnN, v_ifS, v_never, v_asg, v_gname, v_gnil, v_gcons, v_gtup, v_is1, v_is2, v_tru, v_noPart, v_part, v_cut, v_dnew, v_fdnew, v_flst, v_flstRg, v_span, v_rg1, v_rg2, v_frep, v_fdict, v_asgF, v_append, v_extend, v_popAt, v_pop, v_augIx, v_for, v_while, v_any, v_range1, v_range2, v_zip, v_enumT, v_enum, v_vals, v_items, v_yes, v_lc, v_lcOwn, v_lc2, v_all, v_dc, v_dcOwn, v_par, v_parF, v_par3F, v_par3L, v_inN, v_dget, v_dput, v_daug, v_rel, opt_some, opt_none, opt_ite, opt_map, isD_d, isB_b, isI_i, isL_l, isT'_t, isDict_d, isDV_d, dat1_d, dat2_d, vget_d, vget_row, vget_own, vget_oN, ownL_o, ownN_o, look_nil, look_zero, look_succ, cont_d, cont_vw, rd_d', rd_own', dd_d', dd_oN', startD, List.map_cons, List.map_nil, List.length_cons, List.length_nil, List.replicate, List.cons_append, List.nil_append, List.append_nil, List.set_cons_zero, List.set_cons_succ, List.set_nil, hide, wipeD, noOwn, datas, conts, rds, Nat.reduceAdd, Nat.reduceSub, List.all_cons, List.all_nil, DV.isOwn, fAdd, fInt, fSub, fFDiv, fMod, fMul, fIs, fIsNot, fIx, fCut, isT, cLen, cTuple, cList, cSum, cMax, cMin, cInt, cStr, truD, seqD, zipOf, isNone, fAddI, Bool.not_true, Bool.not_false, Bool.and_true, Bool.true_and, Bool.and_false, Bool.false_and, Bool.or_true, Bool.true_or, Bool.or_false, Bool.false_or, if_true, if_false, Bool.false_eq_true, ite_true, ite_false, reduceCtorEq, Tw.fEq_i, Tw.fNe_i, Tw.fIn_i, Tw.fIn_iC, Tw.fIn_iL, Tw.fNotIn_iC, Tw.fIn_P, Tw.fNotIn_P, Tw.fNotIn_C, Tw.fLt_C, Tw.fLt_i, Tw.fGt_i, Tw.fLe_i, Tw.fGe_i, Tw.atI_0, Tw.atI_1, Tw.atI_2, true_and, and_true, eq_self, v_fknew, v_sortK, v_setSort, v_lenSetT, v_kput, ownK_o,  g__law_alike, g_shares, g_is_evenly_shared, intsOf_map]
      have hlen : (meets cs).length ≤ 4000 := by
        have h1 := meets_len cs
        have h2 : cs.length * (cs.length - 1) ≤ 64 * 63 := Nat.mul_le_mul hcl (by omega)
        omega
      have hul := uniqI_len (meets_bd hhi ht.clubs)
      have hfew := fun h => even_few hlo ht.clubs (ascC_nodup ht.asc) h
      have alk : Alk 6 (PyData.list [PyData.tuple ((uniqI (meets cs)).map .int), PyData.bool (evenB cs)]) := by
        refine ⟨two_size, fun x hx => ?_⟩
        simp only [List.mem_cons, List.not_mem_nil, or_false] at hx
        rcases hx with rfl | rfl
        · exact alk_C 3 (by omega)
        · exact trivial
      have fin : if evenB cs = true then (if decide (n < (cs.map encC).length) = true then (PyData.bool false = PyData.bool true) else tl2 { nx := fun _ => False, rt := fun d => d = .bool true } [none, some .row, some (.d (encT n cs)), some (.d (.int n)), b, some (.d (.tuple (cs.map encC))), e, g, x8, x9, some (DV.d (PyData.list ((meets cs).map .int))), p, q, some (DV.d (PyData.tuple ((uniqI (meets cs)).map .int))), none, none, none, none, none, none])
          else tl2 { nx := fun _ => False, rt := fun d => d = .bool true } [none, some .row, some (.d (encT n cs)), some (.d (.int n)), b, some (.d (.tuple (cs.map encC))), e, g, x8, x9, some (DV.d (PyData.list ((meets cs).map .int))), p, q, some (DV.d (PyData.tuple ((uniqI (meets cs)).map .int))), none, none, none, none, none, none] := by
        have h := hM2 n cs b e g x8 x9 (some (DV.d (PyData.list ((meets cs).map .int)))) p q (some (DV.d (PyData.tuple ((uniqI (meets cs)).map .int)))) ht hn hcl
        split
        · rename_i he
          rw [if_neg (by rw [List.length_map]; have := hfew he; simp; omega)]
          exact h
        · exact h
      refine ⟨hlen, by omega, n, cs, rfl, ht, n, cs, rfl, ht, two_size, ?_⟩
      by_cases h2 : ((uniqI (meets cs)).length : Int) < 2
      · rw [if_pos (by rw [List.length_map]; exact decide_eq_true h2)]
        exact ⟨two_size, by simp [evenB, h2], alk, n, cs, rfl, ht, fin⟩
      · rw [if_neg (by rw [List.length_map]; simpa using h2)]
        exact ⟨two_size, by simp [evenB, h2], alk, n, cs, rfl, ht, fin⟩
  refine law_cal (seed := 6404) (by decide) lk hcd sc_law rfl _ (fun A outer s H E => ps_set nd rfl (.inl rfl) (pe_lst (pa_cons (pv 0) (pa_cons pe_int (pa_cons pe_int (pa_cons pe_int pa_nil)))))) (fun A outer s H E B => (psd_cons (psd_set (i := 2) nd rfl (by first | exact .inl rfl | exact .inr rfl) (pd_callC c__law_pick (B.room.mono (by first | decide | exact Nat.le_refl _)) B.pass (pad_cons (pd_var (pv 1)) (pad_cons (pd_lst (pad_cons (pd_callC c__law_any_town (B.room.mono (by first | decide | exact Nat.le_refl _)) B.pass (pad_cons (pd_var (pv 1)) (pad_cons pd_int pad_nil))) (pad_cons (pd_callC c__law_pair_town (B.room.mono (by first | decide | exact Nat.le_refl _)) B.pass (pad_cons (pd_var (pv 1)) (pad_cons pd_int pad_nil))) pad_nil))) pad_nil))))
    (psd_cons (psd_if (ptd_cmp (op_eqDD (B.room.u64)) (pd_callC c__law_taken (B.room.mono (by first | decide | exact Nat.le_refl _)) B.pass (pad_cons (pd_var (pv 1)) (pad_cons pd_int pad_nil))) pd_int (by rfl)) (psd_cons (psd_par3FG (i := 3) (j := 4) (l := 5) rfl (pg_name nd rfl (by first | exact .inl rfl | exact .inr rfl)) (pg_name nd rfl (by first | exact .inl rfl | exact .inr rfl)) (pg_name nd rfl (by first | exact .inl rfl | exact .inr rfl)) (pd_op op_addD pd_int (pd_callC c__law_taken (B.room.mono (by first | decide | exact Nat.le_refl _)) B.pass (pad_cons (pd_var (pv 1)) (pad_cons pd_int pad_nil)))) (pd_op op_addD pd_int (pd_callC c__law_taken (B.room.mono (by first | decide | exact Nat.le_refl _)) B.pass (pad_cons (pd_var (pv 1)) (pad_cons pd_int pad_nil)))))
    (psd_cons (psd_set (i := 6) nd rfl (by first | exact .inl rfl | exact .inr rfl) (pd_callC c__law_clubs (B.room.mono (by first | decide | exact Nat.le_refl _)) B.pass (pad_cons (pd_var (pv 3)) pad_nil)))
    (psd_cons (psd_while B.own (ptd_cmp (op_neDD (B.room.u64)) (pd_var (pv 6)) (pd_lst pad_nil) (by rfl)) (psd_cons (psd_set (i := 7) nd rfl (by first | exact .inl rfl | exact .inr rfl) (pd_callC c__law_pick (B.room.mono (by first | decide | exact Nat.le_refl _)) B.pass (pad_cons (pd_var (pv 1)) (pad_cons (pd_var (pv 6)) pad_nil))))
    (psd_cons (psd_append (pv 5) (pd_var (pv 7)))
    (psd_one (psd_setLc (i := 6) (own := [("one", 8)]) rfl nd rfl rfl (sw_true rfl rfl rfl (by decide +kernel)) (pid_any (pd_var (pv 6))) (blkOk_by (by first | rfl | kernel_rfl)) (fun s H C cl fp => (pgd_name (pg_name (i := 8) nd rfl (by first | exact .inl rfl | exact .inr rfl)))) (fun s H C cl fp => (ptsd_one (PWD.pt (pwd_and (ptd_cmp (op_neDD (B.room.u64)) (pd_var (pv 8)) (pd_var (pv 7)) (by rfl)) (pwd_and1 (ptd_cmp (op_eqDD (B.room.u64)) (pd_callB (call_lenD) (by rfl) Tx.len bt_len (pad_cons (pd_lc (own := [("person", 9)]) rfl nd (pid_any (pd_var (pv 8))) (blkOk_by (by first | rfl | kernel_rfl)) (fun s H C cl fp => (pgd_name (pg_name (i := 9) nd rfl (by first | exact .inl rfl | exact .inr rfl)))) (fun s H C cl fp => (ptsd_one (ptd_cmp (op_inDD (B.room.u65)) (pd_var (pv 9)) (pd_var (pv 7)) (by rfl)))) (fun s H C cl fp => (pd_var (pv 9)))) pad_nil)) (pd_var (pv 4)) (by rfl))))))) (fun s H C cl fp => (pd_var (pv 8))))))))
    (psd_one (psd_set (i := 2) nd rfl (by first | exact .inl rfl | exact .inr rfl) (pd_tup (pad_cons (pd_var (pv 3)) (pad_cons (pd_callTy (call_tupleD) (by rfl) Tx.tuple bt_tuple (pad_cons (pd_callB (call_sortedD (B.room.u100)) (by rfl) Tx.sorted bt_sorted (pad_cons (pd_var (pv 5)) pad_nil)) pad_nil)) pad_nil))))))))
    psd_nil)
    (hT A outer s H E B)))) ?_
  simp only [v_var, v_c, v_g2, v_gN, v_op, v_B, v_chain, v_and, v_or, v_not, v_andV, v_orV, v_notV, v_if, v_nil, v_cons, v_tup, v_lst, v_call, v_fn, v_next, v_seq, v_break, v_contS, v_drop, v_ret, v_retN, v_retOwn, v_retOwnN, v_ifS, v_never, v_asg, v_gname, v_gnil, v_gcons, v_gtup, v_is1, v_is2, v_tru, v_noPart, v_part, v_cut, v_dnew, v_fdnew, v_flst, v_flstRg, v_span, v_rg1, v_rg2, v_frep, v_fdict, v_asgF, v_append, v_extend, v_popAt, v_pop, v_augIx, v_for, v_while, v_any, v_range1, v_range2, v_zip, v_enumT, v_enum, v_vals, v_items, v_yes, v_lc, v_lcOwn, v_lc2, v_all, v_dc, v_dcOwn, v_par, v_parF, v_par3F, v_par3L, v_inN, v_dget, v_dput, v_daug, v_rel, opt_some, opt_none, opt_ite, opt_map, isD_d, isB_b, isI_i, isL_l, isT'_t, isDict_d, isDV_d, dat1_d, dat2_d, vget_d, vget_row, vget_own, vget_oN, ownL_o, ownN_o, look_nil, look_zero, look_succ, cont_d, cont_vw, rd_d', rd_own', dd_d', dd_oN', startD, List.map_cons, List.map_nil, List.length_cons, List.length_nil, List.replicate, List.cons_append, List.nil_append, List.append_nil, List.set_cons_zero, List.set_cons_succ, List.set_nil, hide, wipeD, noOwn, datas, conts, rds, Nat.reduceAdd, Nat.reduceSub, List.all_cons, List.all_nil, DV.isOwn, fAdd, fInt, fSub, fFDiv, fMod, fMul, fIs, fIsNot, fIx, fCut, isT, cLen, cTuple, cList, cSum, cMax, cMin, cInt, cStr, truD, seqD, zipOf, isNone, fAddI, Bool.not_true, Bool.not_false, Bool.and_true, Bool.true_and, Bool.and_false, Bool.false_and, Bool.or_true, Bool.true_or, Bool.or_false, Bool.false_or, if_true, if_false, Bool.false_eq_true, ite_true, ite_false, reduceCtorEq, Tw.fEq_i, Tw.fNe_i, Tw.fIn_i, Tw.fIn_iC, Tw.fIn_iL, Tw.fNotIn_iC, Tw.fIn_P, Tw.fNotIn_P, Tw.fNotIn_C, Tw.fLt_C, Tw.fLt_i, Tw.fGt_i, Tw.fLe_i, Tw.fGe_i, Tw.atI_0, Tw.atI_1, Tw.atI_2, true_and, and_true, eq_self, law0, g__law_pick, g__law_any_town, g__law_begun, g__law_pair_town]
  refine ⟨by decide, by decide, fun n1 cs1 a1 t1 l1 => ⟨by decide, by decide, fun n2 cs2 a2 t2 p2 => ⟨two_size, by simp, two_size, fun x hx => ?_⟩⟩⟩
  have hs := PySem.sizeLine_eq
  obtain ⟨n, cs, rfl, ht, hn, hc⟩ : ∃ n cs, x = encT n cs ∧ TownS n cs ∧ n ≤ 7 ∧ cs.length ≤ 64 := by
    simp only [List.mem_cons, List.not_mem_nil, or_false] at hx
    rcases hx with rfl | rfl
    · exact ⟨_, _, rfl, t1, by omega, by omega⟩
    · have h7 : n2 ≤ 7 := by omega
      have := single_few t2.clubs (ascC_nodup t2.asc) (p2.single t2.clubs)
      have := pairsN_len7 h7
      exact ⟨_, _, rfl, t2, h7, by omega⟩
  simp only [v_var, v_c, v_g2, v_gN, v_op, v_B, v_chain, v_and, v_or, v_not, v_andV, v_orV, v_notV, v_if, v_nil, v_cons, v_tup, v_lst, v_call, v_fn, v_next, v_seq, v_break, v_contS, v_drop, v_ret, v_retN, v_retOwn, v_retOwnN, v_ifS, v_never, v_asg, v_gname, v_gnil, v_gcons, v_gtup, v_is1, v_is2, v_tru, v_noPart, v_part, v_cut, v_dnew, v_fdnew, v_flst, v_flstRg, v_span, v_rg1, v_rg2, v_frep, v_fdict, v_asgF, v_append, v_extend, v_popAt, v_pop, v_augIx, v_for, v_while, v_any, v_range1, v_range2, v_zip, v_enumT, v_enum, v_vals, v_items, v_yes, v_lc, v_lcOwn, v_lc2, v_all, v_dc, v_dcOwn, v_par, v_parF, v_par3F, v_par3L, v_inN, v_dget, v_dput, v_daug, v_rel, opt_some, opt_none, opt_ite, opt_map, isD_d, isB_b, isI_i, isL_l, isT'_t, isDict_d, isDV_d, dat1_d, dat2_d, vget_d, vget_row, vget_own, vget_oN, ownL_o, ownN_o, look_nil, look_zero, look_succ, cont_d, cont_vw, rd_d', rd_own', dd_d', dd_oN', startD, List.map_cons, List.map_nil, List.length_cons, List.length_nil, List.replicate, List.cons_append, List.nil_append, List.append_nil, List.set_cons_zero, List.set_cons_succ, List.set_nil, hide, wipeD, noOwn, datas, conts, rds, Nat.reduceAdd, Nat.reduceSub, List.all_cons, List.all_nil, DV.isOwn, fAdd, fInt, fSub, fFDiv, fMod, fMul, fIs, fIsNot, fIx, fCut, isT, cLen, cTuple, cList, cSum, cMax, cMin, cInt, cStr, truD, seqD, zipOf, isNone, fAddI, Bool.not_true, Bool.not_false, Bool.and_true, Bool.true_and, Bool.and_false, Bool.false_and, Bool.or_true, Bool.true_or, Bool.or_false, Bool.false_or, if_true, if_false, Bool.false_eq_true, ite_true, ite_false, reduceCtorEq, Tw.fEq_i, Tw.fNe_i, Tw.fIn_i, Tw.fIn_iC, Tw.fIn_iL, Tw.fNotIn_iC, Tw.fIn_P, Tw.fNotIn_P, Tw.fNotIn_C, Tw.fLt_C, Tw.fLt_i, Tw.fGt_i, Tw.fLe_i, Tw.fGe_i, Tw.atI_0, Tw.atI_1, Tw.atI_2, true_and, and_true, eq_self, g__law_taken, g_taken]
  refine ⟨by decide, by decide, fun k k0 k1 => ?_⟩
  cases hk : decide (k = 0)
  · rw [if_neg Bool.false_ne_true]
    exact hM n cs none none none none none none none ht hn hc
  · rw [if_pos rfl]
    refine ⟨by decide, by decide, fun k2 k20 k21 => ?_⟩
    refine ⟨by decide, by decide, fun k3 k30 k31 => ⟨Nat.zero_le _, ?_⟩⟩
    simp only [v_var, v_c, v_g2, v_gN, v_op, v_B, v_chain, v_and, v_or, v_not, v_andV, v_orV, v_notV, v_if, v_nil, v_cons, v_tup, v_lst, v_call, v_fn, v_next, v_seq, v_break, v_contS, v_drop, v_ret, v_retN, v_retOwn, v_retOwnN, v_ifS, v_never, v_asg, v_gname, v_gnil, v_gcons, v_gtup, v_is1, v_is2, v_tru, v_noPart, v_part, v_cut, v_dnew, v_fdnew, v_flst, v_flstRg, v_span, v_rg1, v_rg2, v_frep, v_fdict, v_asgF, v_append, v_extend, v_popAt, v_pop, v_augIx, v_for, v_while, v_any, v_range1, v_range2, v_zip, v_enumT, v_enum, v_vals, v_items, v_yes, v_lc, v_lcOwn, v_lc2, v_all, v_dc, v_dcOwn, v_par, v_parF, v_par3F, v_par3L, v_inN, v_dget, v_dput, v_daug, v_rel, opt_some, opt_none, opt_ite, opt_map, isD_d, isB_b, isI_i, isL_l, isT'_t, isDict_d, isDV_d, dat1_d, dat2_d, vget_d, vget_row, vget_own, vget_oN, ownL_o, ownN_o, look_nil, look_zero, look_succ, cont_d, cont_vw, rd_d', rd_own', dd_d', dd_oN', startD, List.map_cons, List.map_nil, List.length_cons, List.length_nil, List.replicate, List.cons_append, List.nil_append, List.append_nil, List.set_cons_zero, List.set_cons_succ, List.set_nil, hide, wipeD, noOwn, datas, conts, rds, Nat.reduceAdd, Nat.reduceSub, List.all_cons, List.all_nil, DV.isOwn, fAdd, fInt, fSub, fFDiv, fMod, fMul, fIs, fIsNot, fIx, fCut, isT, cLen, cTuple, cList, cSum, cMax, cMin, cInt, cStr, truD, seqD, zipOf, isNone, fAddI, Bool.not_true, Bool.not_false, Bool.and_true, Bool.true_and, Bool.and_false, Bool.false_and, Bool.or_true, Bool.true_or, Bool.or_false, Bool.false_or, if_true, if_false, Bool.false_eq_true, ite_true, ite_false, reduceCtorEq, Tw.fEq_i, Tw.fNe_i, Tw.fIn_i, Tw.fIn_iC, Tw.fIn_iL, Tw.fNotIn_iC, Tw.fIn_P, Tw.fNotIn_P, Tw.fNotIn_C, Tw.fLt_C, Tw.fLt_i, Tw.fGt_i, Tw.fLe_i, Tw.fGe_i, Tw.atI_0, Tw.atI_1, Tw.atI_2, true_and, and_true, eq_self, g__law_clubs]
    refine ⟨by omega, by omega, ?_⟩
    have hcn : (clubsN (3 + k2)).length ≤ 64 := by
      refine Nat.le_trans (List.length_filter_le _ _) ?_
      rw [subs_len]
      exact Nat.pow_le_pow_right (by decide) (by omega : (3 + k2).toNat ≤ 6)
    refine ⟨fun m δ => ∃ (L left : List (List Int)) (a b c : Option DV), m = left.length ∧ δ = [none, some .row, some (.d (encT n cs)), some (.d (.int (3 + k2))), some (.d (.int (1 + k3))), some (.own (L.map encC)), some (.d (.list (left.map encC))), a, b, c, none, none, none, none, none, none, none, none, none, none] ∧
      L.Nodup ∧ (∀ c ∈ L, c ∈ clubsN (3 + k2)) ∧ (∀ c ∈ left, c ∈ clubsN (3 + k2) ∧ c ∉ L) ∧ left.length ≤ 64, ⟨_, [], clubsN (3 + k2), none, none, none, rfl, rfl, List.nodup_nil, (fun c hc => by cases hc), (fun c hc => ⟨hc, by simp⟩), hcn⟩, ?_⟩
    rintro m δ ⟨L, left, a, b, c, rfl, rfl, nd1, hL, hleft, hlen⟩
    have hne := fNe_nil (l := left.map encC) (k := 1) (fun x h => by obtain ⟨l, _, rfl⟩ := List.mem_map.mp h; exact sh_C l) (by decide)
    have hLl : L.length ≤ 64 := Nat.le_trans (nodup_len nd1 hL) hcn
    simp only [v_var, v_c, v_g2, v_gN, v_op, v_B, v_chain, v_and, v_or, v_not, v_andV, v_orV, v_notV, v_if, v_nil, v_cons, v_tup, v_lst, v_call, v_fn, v_next, v_seq, v_break, v_contS, v_drop, v_ret, v_retN, v_retOwn, v_retOwnN, v_ifS, v_never, v_asg, v_gname, v_gnil, v_gcons, v_gtup, v_is1, v_is2, v_tru, v_noPart, v_part, v_cut, v_dnew, v_fdnew, v_flst, v_flstRg, v_span, v_rg1, v_rg2, v_frep, v_fdict, v_asgF, v_append, v_extend, v_popAt, v_pop, v_augIx, v_for, v_while, v_any, v_range1, v_range2, v_zip, v_enumT, v_enum, v_vals, v_items, v_yes, v_lc, v_lcOwn, v_lc2, v_all, v_dc, v_dcOwn, v_par, v_parF, v_par3F, v_par3L, v_inN, v_dget, v_dput, v_daug, v_rel, opt_some, opt_none, opt_ite, opt_map, isD_d, isB_b, isI_i, isL_l, isT'_t, isDict_d, isDV_d, dat1_d, dat2_d, vget_d, vget_row, vget_own, vget_oN, ownL_o, ownN_o, look_nil, look_zero, look_succ, cont_d, cont_vw, rd_d', rd_own', dd_d', dd_oN', startD, List.map_cons, List.map_nil, List.length_cons, List.length_nil, List.replicate, List.cons_append, List.nil_append, List.append_nil, List.set_cons_zero, List.set_cons_succ, List.set_nil, hide, wipeD, noOwn, datas, conts, rds, Nat.reduceAdd, Nat.reduceSub, List.all_cons, List.all_nil, DV.isOwn, fAdd, fInt, fSub, fFDiv, fMod, fMul, fIs, fIsNot, fIx, fCut, isT, cLen, cTuple, cList, cSum, cMax, cMin, cInt, cStr, truD, seqD, zipOf, isNone, fAddI, Bool.not_true, Bool.not_false, Bool.and_true, Bool.true_and, Bool.and_false, Bool.false_and, Bool.or_true, Bool.true_or, Bool.or_false, Bool.false_or, if_true, if_false, Bool.false_eq_true, ite_true, ite_false, reduceCtorEq, Tw.fEq_i, Tw.fNe_i, Tw.fIn_i, Tw.fIn_iC, Tw.fIn_iL, Tw.fNotIn_iC, Tw.fIn_P, Tw.fNotIn_P, Tw.fNotIn_C, Tw.fLt_C, Tw.fLt_i, Tw.fGt_i, Tw.fLe_i, Tw.fGe_i, Tw.atI_0, Tw.atI_1, Tw.atI_2, true_and, and_true, eq_self, hne, g__law_pick]
    refine ⟨Nat.zero_le _, ?_⟩
    by_cases hl : left = []
    · subst hl
      rw [if_neg (by simp)]
      simp only [v_var, v_c, v_g2, v_gN, v_op, v_B, v_chain, v_and, v_or, v_not, v_andV, v_orV, v_notV, v_if, v_nil, v_cons, v_tup, v_lst, v_call, v_fn, v_next, v_seq, v_break, v_contS, v_drop, v_ret, v_retN, v_retOwn, v_retOwnN, v_ifS, v_never, v_asg, v_gname, v_gnil, v_gcons, v_gtup, v_is1, v_is2, v_tru, v_noPart, v_part, v_cut, v_dnew, v_fdnew, v_flst, v_flstRg, v_span, v_rg1, v_rg2, v_frep, v_fdict, v_asgF, v_append, v_extend, v_popAt, v_pop, v_augIx, v_for, v_while, v_any, v_range1, v_range2, v_zip, v_enumT, v_enum, v_vals, v_items, v_yes, v_lc, v_lcOwn, v_lc2, v_all, v_dc, v_dcOwn, v_par, v_parF, v_par3F, v_par3L, v_inN, v_dget, v_dput, v_daug, v_rel, opt_some, opt_none, opt_ite, opt_map, isD_d, isB_b, isI_i, isL_l, isT'_t, isDict_d, isDV_d, dat1_d, dat2_d, vget_d, vget_row, vget_own, vget_oN, ownL_o, ownN_o, look_nil, look_zero, look_succ, cont_d, cont_vw, rd_d', rd_own', dd_d', dd_oN', startD, List.map_cons, List.map_nil, List.length_cons, List.length_nil, List.replicate, List.cons_append, List.nil_append, List.append_nil, List.set_cons_zero, List.set_cons_succ, List.set_nil, hide, wipeD, noOwn, datas, conts, rds, Nat.reduceAdd, Nat.reduceSub, List.all_cons, List.all_nil, DV.isOwn, fAdd, fInt, fSub, fFDiv, fMod, fMul, fIs, fIsNot, fIx, fCut, isT, cLen, cTuple, cList, cSum, cMax, cMin, cInt, cStr, truD, seqD, zipOf, isNone, fAddI, Bool.not_true, Bool.not_false, Bool.and_true, Bool.true_and, Bool.and_false, Bool.false_and, Bool.or_true, Bool.true_or, Bool.or_false, Bool.false_or, if_true, if_false, Bool.false_eq_true, ite_true, ite_false, reduceCtorEq, Tw.fEq_i, Tw.fNe_i, Tw.fIn_i, Tw.fIn_iC, Tw.fIn_iL, Tw.fNotIn_iC, Tw.fIn_P, Tw.fNotIn_P, Tw.fNotIn_C, Tw.fLt_C, Tw.fLt_i, Tw.fGt_i, Tw.fLe_i, Tw.fGe_i, Tw.atI_0, Tw.atI_1, Tw.atI_2, true_and, and_true, eq_self, cSorted, sortOk_C', sortD_C]
      have hv : ∀ c ∈ L, ClubV (3 + k2) c := fun c hc => clubsN_ok (by omega) (hL c hc)
      refine ⟨two_size, hM (3 + k2) (srtC L) _ _ _ _ _ _ _ (town_srt (by omega) (by omega) hv nd1 (by omega)) (by omega) (by rw [srtC_len]; exact hLl)⟩
    · rw [if_pos (by simp [hl])]
      refine ⟨by simp [hl], by rw [List.length_map]; omega, fun x hx => ?_⟩
      obtain ⟨cl, hcl, rfl⟩ := List.mem_map.mp hx
      have hv := clubsN_ok (n := 3 + k2) (by omega) (hleft cl hcl).1
      rw [List.length_map]
      refine ⟨by omega, ?_⟩
      refine lcD_filter encC (fun y => !decide (y = cl) && decide (((y.filter fun z => decide (z ∈ cl)).length : Int) = 1 + k3)) (by omega) (fun y hy R Z => ?_) ?_
      · have hvy := (clubsN_ok (n := 3 + k2) (by omega) (hleft y hy).1).less
        simp only [v_var, v_c, v_g2, v_gN, v_op, v_B, v_chain, v_and, v_or, v_not, v_andV, v_orV, v_notV, v_if, v_nil, v_cons, v_tup, v_lst, v_call, v_fn, v_next, v_seq, v_break, v_contS, v_drop, v_ret, v_retN, v_retOwn, v_retOwnN, v_ifS, v_never, v_asg, v_gname, v_gnil, v_gcons, v_gtup, v_is1, v_is2, v_tru, v_noPart, v_part, v_cut, v_dnew, v_fdnew, v_flst, v_flstRg, v_span, v_rg1, v_rg2, v_frep, v_fdict, v_asgF, v_append, v_extend, v_popAt, v_pop, v_augIx, v_for, v_while, v_any, v_range1, v_range2, v_zip, v_enumT, v_enum, v_vals, v_items, v_yes, v_lc, v_lcOwn, v_lc2, v_all, v_dc, v_dcOwn, v_par, v_parF, v_par3F, v_par3L, v_inN, v_dget, v_dput, v_daug, v_rel, opt_some, opt_none, opt_ite, opt_map, isD_d, isB_b, isI_i, isL_l, isT'_t, isDict_d, isDV_d, dat1_d, dat2_d, vget_d, vget_row, vget_own, vget_oN, ownL_o, ownN_o, look_nil, look_zero, look_succ, cont_d, cont_vw, rd_d', rd_own', dd_d', dd_oN', startD, List.map_cons, List.map_nil, List.length_cons, List.length_nil, List.replicate, List.cons_append, List.nil_append, List.append_nil, List.set_cons_zero, List.set_cons_succ, List.set_nil, hide, wipeD, noOwn, datas, conts, rds, Nat.reduceAdd, Nat.reduceSub, List.all_cons, List.all_nil, DV.isOwn, fAdd, fInt, fSub, fFDiv, fMod, fMul, fIs, fIsNot, fIx, fCut, isT, cLen, cTuple, cList, cSum, cMax, cMin, cInt, cStr, truD, seqD, zipOf, isNone, fAddI, Bool.not_true, Bool.not_false, Bool.and_true, Bool.true_and, Bool.and_false, Bool.false_and, Bool.or_true, Bool.true_or, Bool.or_false, Bool.false_or, if_true, if_false, Bool.false_eq_true, ite_true, ite_false, reduceCtorEq, Tw.fEq_i, Tw.fNe_i, Tw.fIn_i, Tw.fIn_iC, Tw.fIn_iL, Tw.fNotIn_iC, Tw.fIn_P, Tw.fNotIn_P, Tw.fNotIn_C, Tw.fLt_C, Tw.fLt_i, Tw.fGt_i, Tw.fLe_i, Tw.fGe_i, Tw.atI_0, Tw.atI_1, Tw.atI_2, true_and, and_true, eq_self, fNe_C]
        cases h5 : decide (y = cl)
        · rw [h5] at Z
          rw [if_pos (by decide)]
          refine lcD_filter .int (fun z => decide (z ∈ cl)) (by omega) (fun z hz R2 Z2 => ?_) ?_
          · simp only [v_var, v_c, v_g2, v_gN, v_op, v_B, v_chain, v_and, v_or, v_not, v_andV, v_orV, v_notV, v_if, v_nil, v_cons, v_tup, v_lst, v_call, v_fn, v_next, v_seq, v_break, v_contS, v_drop, v_ret, v_retN, v_retOwn, v_retOwnN, v_ifS, v_never, v_asg, v_gname, v_gnil, v_gcons, v_gtup, v_is1, v_is2, v_tru, v_noPart, v_part, v_cut, v_dnew, v_fdnew, v_flst, v_flstRg, v_span, v_rg1, v_rg2, v_frep, v_fdict, v_asgF, v_append, v_extend, v_popAt, v_pop, v_augIx, v_for, v_while, v_any, v_range1, v_range2, v_zip, v_enumT, v_enum, v_vals, v_items, v_yes, v_lc, v_lcOwn, v_lc2, v_all, v_dc, v_dcOwn, v_par, v_parF, v_par3F, v_par3L, v_inN, v_dget, v_dput, v_daug, v_rel, opt_some, opt_none, opt_ite, opt_map, isD_d, isB_b, isI_i, isL_l, isT'_t, isDict_d, isDV_d, dat1_d, dat2_d, vget_d, vget_row, vget_own, vget_oN, ownL_o, ownN_o, look_nil, look_zero, look_succ, cont_d, cont_vw, rd_d', rd_own', dd_d', dd_oN', startD, List.map_cons, List.map_nil, List.length_cons, List.length_nil, List.replicate, List.cons_append, List.nil_append, List.append_nil, List.set_cons_zero, List.set_cons_succ, List.set_nil, hide, wipeD, noOwn, datas, conts, rds, Nat.reduceAdd, Nat.reduceSub, List.all_cons, List.all_nil, DV.isOwn, fAdd, fInt, fSub, fFDiv, fMod, fMul, fIs, fIsNot, fIx, fCut, isT, cLen, cTuple, cList, cSum, cMax, cMin, cInt, cStr, truD, seqD, zipOf, isNone, fAddI, Bool.not_true, Bool.not_false, Bool.and_true, Bool.true_and, Bool.and_false, Bool.false_and, Bool.or_true, Bool.true_or, Bool.or_false, Bool.false_or, if_true, if_false, Bool.false_eq_true, ite_true, ite_false, reduceCtorEq, Tw.fEq_i, Tw.fNe_i, Tw.fIn_i, Tw.fIn_iC, Tw.fIn_iL, Tw.fNotIn_iC, Tw.fIn_P, Tw.fNotIn_P, Tw.fNotIn_C, Tw.fLt_C, Tw.fLt_i, Tw.fGt_i, Tw.fLe_i, Tw.fGe_i, Tw.atI_0, Tw.atI_1, Tw.atI_2, true_and, and_true, eq_self]
            cases h : decide (z ∈ cl) <;> rw [h] at Z2 <;> simpa using Z2
          · simp only [v_var, v_c, v_g2, v_gN, v_op, v_B, v_chain, v_and, v_or, v_not, v_andV, v_orV, v_notV, v_if, v_nil, v_cons, v_tup, v_lst, v_call, v_fn, v_next, v_seq, v_break, v_contS, v_drop, v_ret, v_retN, v_retOwn, v_retOwnN, v_ifS, v_never, v_asg, v_gname, v_gnil, v_gcons, v_gtup, v_is1, v_is2, v_tru, v_noPart, v_part, v_cut, v_dnew, v_fdnew, v_flst, v_flstRg, v_span, v_rg1, v_rg2, v_frep, v_fdict, v_asgF, v_append, v_extend, v_popAt, v_pop, v_augIx, v_for, v_while, v_any, v_range1, v_range2, v_zip, v_enumT, v_enum, v_vals, v_items, v_yes, v_lc, v_lcOwn, v_lc2, v_all, v_dc, v_dcOwn, v_par, v_parF, v_par3F, v_par3L, v_inN, v_dget, v_dput, v_daug, v_rel, opt_some, opt_none, opt_ite, opt_map, isD_d, isB_b, isI_i, isL_l, isT'_t, isDict_d, isDV_d, dat1_d, dat2_d, vget_d, vget_row, vget_own, vget_oN, ownL_o, ownN_o, look_nil, look_zero, look_succ, cont_d, cont_vw, rd_d', rd_own', dd_d', dd_oN', startD, List.map_cons, List.map_nil, List.length_cons, List.length_nil, List.replicate, List.cons_append, List.nil_append, List.append_nil, List.set_cons_zero, List.set_cons_succ, List.set_nil, hide, wipeD, noOwn, datas, conts, rds, Nat.reduceAdd, Nat.reduceSub, List.all_cons, List.all_nil, DV.isOwn, fAdd, fInt, fSub, fFDiv, fMod, fMul, fIs, fIsNot, fIx, fCut, isT, cLen, cTuple, cList, cSum, cMax, cMin, cInt, cStr, truD, seqD, zipOf, isNone, fAddI, Bool.not_true, Bool.not_false, Bool.and_true, Bool.true_and, Bool.and_false, Bool.false_and, Bool.or_true, Bool.true_or, Bool.or_false, Bool.false_or, if_true, if_false, Bool.false_eq_true, ite_true, ite_false, reduceCtorEq, Tw.fEq_i, Tw.fNe_i, Tw.fIn_i, Tw.fIn_iC, Tw.fIn_iL, Tw.fNotIn_iC, Tw.fIn_P, Tw.fNotIn_P, Tw.fNotIn_C, Tw.fLt_C, Tw.fLt_i, Tw.fGt_i, Tw.fLe_i, Tw.fGe_i, Tw.atI_0, Tw.atI_1, Tw.atI_2, true_and, and_true, eq_self, List.length_map]
            by_cases h6 : (((y.filter fun z => decide (z ∈ cl)).length : Nat) : Int) = 1 + k3 <;> simpa [h6] using Z
        · rw [h5] at Z
          rw [if_neg (by decide)]
          simpa using Z
      · have hlt : (left.filter fun y => !decide (y = cl) && decide (((y.filter fun z => decide (z ∈ cl)).length : Int) = 1 + k3)).length < left.length := by
          rw [List.length_filter_lt_length_iff_exists]
          exact ⟨cl, hcl, by simp⟩
        refine ⟨_, hlt, L ++ [cl], _, _, _, _, rfl, by rw [List.map_append]; rfl, nodup_snoc nd1 (hleft cl hcl).2, fun c hc => ?_, fun c hc => ?_, by omega⟩
        · rcases List.mem_append.mp hc with hc | hc
          · exact hL c hc
          · rw [List.mem_singleton] at hc
            rw [hc]; exact (hleft cl hcl).1
        · rw [List.mem_filter] at hc
          refine ⟨(hleft c hc.1).1, fun hm => ?_⟩
          rcases List.mem_append.mp hm with hm | hm
          · exact (hleft c hc.1).2 hm
          · rw [List.mem_singleton] at hm
            have := hc.2
            simp [hm] at this
end
end K4
namespace K4
open PySem PySem.Spec PyProof.Rows L2 DL
abbrev dd (x : Str) (st : Stmt) : He.DefD := ⟨(x, none), x, x, defArgs st, defBody st, defScope st, [], []⟩
def fnL0 : List He.DefD := [dd "is_number" s_is_number, dd "is_club" s_is_club, dd "wrong_town" s_wrong_town, dd "is_town" s_is_town, dd "need_town" s_need_town, dd "shared_numbers" s_shared_numbers, dd "shares" s_shares, dd "is_evenly_shared" s_is_evenly_shared, dd "turned" s_turned, dd "_law_taken" s__law_taken, dd "_law_pick" s__law_pick, dd "_law_alike" s__law_alike]
def fnL1 : List He.DefD := [dd "_law_turn" s__law_turn, dd "_law_pairs" s__law_pairs, dd "_law_clubs" s__law_clubs, dd "_law_within" s__law_within, dd "_law_counts" s__law_counts, dd "_law_any_town" s__law_any_town, dd "_law_begun" s__law_begun, dd "_law_called" s__law_called, dd "_law_pencil" s__law_pencil, dd "_law_plane" s__law_plane, dd "_law_pair_town" s__law_pair_town, dd "_law_on" s__law_on]
def fnL2 : List He.DefD := [dd "law" s_law]
def fnL : List He.DefD := fnL0 ++ fnL1 ++ fnL2
def faL0 : List He.Fa := [.glo "is_number", .glo "is_club", .glo "wrong_town", .glo "is_town", .glo "need_town", .glo "shared_numbers", .glo "shares", .glo "is_evenly_shared", .glo "turned", .glo "_law_taken", .glo "_law_pick", .glo "_law_alike"]
def faL1 : List He.Fa := [.glo "_law_turn", .glo "_law_pairs", .glo "_law_clubs", .glo "_law_within", .glo "_law_counts", .glo "_law_any_town", .glo "_law_begun", .glo "_law_called", .glo "_law_pencil", .glo "_law_plane", .glo "_law_pair_town", .glo "_law_on"]
def faL2 : List He.Fa := [.glo "law", .free "len", .free "isinstance", .free "int", .free "bool", .free "str", .free "tuple", .free "list", .free "dict", .free "sorted", .free "range", .free "enumerate"]
def faL3 : List He.Fa := [.free "zip", .free "all", .free "set", .free "sum", .free "max", .free "min", .int "MOST_PEOPLE" 31]
def faL : List He.Fa := faL0 ++ faL1 ++ faL2 ++ faL3
def tfL : List He.Defn := [("is_club", none), ("wrong_town", none)]
abbrev RR : PySem.W.OpenRow := PySem.W.OpenLaw.row PySem.Challenge.rw_pairclubs_k04_whole_shares
def exL (_ : PySem.W.Frag) : Bool := true
abbrev hkL : PySem.W.Hook := He.hookX 4 faL fnL [] tfL exL
def obL (s : PySem.W.SharedT) : He.AlX := He.obsX 4 faL fnL [] tfL exL (HandSHeadRun.getT s)
theorem obL_eq (s : PySem.W.SharedT) : obL s = hkL.obs s.abs := He.obsX_eq (HandSHeadRun.getT_eq s)
def nmL0 : List Str := ["ClubError", "BadTown", "MOST_PEOPLE", "is_number", "is_club", "wrong_town", "is_town", "need_town", "shared_numbers", "shares", "is_evenly_shared", "turned"]
def nmL1 : List Str := ["_law_taken", "_law_pick", "_law_alike", "_law_turn", "_law_pairs", "_law_clubs", "_law_within", "_law_counts", "_law_any_town", "_law_begun", "_law_called", "_law_pencil"]
def nmL2 : List Str := ["_law_plane", "_law_pair_town", "_law_on"]
def nmL : List Str := nmL0 ++ nmL1 ++ nmL2
theorem run_top (w : World) : HandSHeadRun.RunEq RR (PySem.W.view RR.prog [31]) hkL obL 4000 nmL w := by
  intro os
  kernel_rfl
theorem law_at {w : World} {mg : Str → Option Value} {f : Addr} {h : Heap} (Y : hkL.says w h) (G : h.Ns mainGlobals mg) (hmg : mg "law" = some (.ref f)) : ∃ K : PySem.W.Frag, K.In h ∧ LamX.LawAtS PySem.Challenge.rw_pairclubs_k04_whole_shares w K (L2.CX PySem.Challenge.rw_pairclubs_k04_whole_shares.prog w) 9 63 "script" mg f h := by
  obtain ⟨K, X, c⟩ := Y
  have cd := c.t.d
  have gl : ∀ {i : Nat} {x : Str}, faL[i]? = some (.glo x) → He.Fa.glo x ∈ faL := fun e => List.mem_of_getElem? e
  have fr : ∀ (i : Nat) {x : Str}, faL[i]? = some (.free x) → mg x = none := fun i x e => He.free_ok X G (cd.facts (List.mem_of_getElem? e))
  have Tx : Txt mg := ⟨fr 25 rfl, fr 26 rfl, fr 27 rfl, fr 28 rfl, fr 29 rfl, fr 30 rfl, fr 31 rfl, fr 32 rfl, fr 33 rfl, fr 34 rfl, fr 35 rfl, fr 36 rfl, fr 37 rfl, fr 38 rfl, fr 39 rfl, fr 40 rfl, fr 41 rfl, He.int_ok X G (cd.facts (List.mem_of_getElem? (i := 42) rfl))⟩
  have F_is_number := func_of X G cd (x := "is_number") (st := s_is_number) (List.mem_of_getElem? (i := 0) rfl) (gl (i := 0) rfl)
  have F_is_club := func_of X G cd (x := "is_club") (st := s_is_club) (List.mem_of_getElem? (i := 1) rfl) (gl (i := 1) rfl)
  have F_wrong_town := func_of X G cd (x := "wrong_town") (st := s_wrong_town) (List.mem_of_getElem? (i := 2) rfl) (gl (i := 2) rfl)
  have F_is_town := func_of X G cd (x := "is_town") (st := s_is_town) (List.mem_of_getElem? (i := 3) rfl) (gl (i := 3) rfl)
  have F_need_town := func_of X G cd (x := "need_town") (st := s_need_town) (List.mem_of_getElem? (i := 4) rfl) (gl (i := 4) rfl)
  have F_shared_numbers := func_of X G cd (x := "shared_numbers") (st := s_shared_numbers) (List.mem_of_getElem? (i := 5) rfl) (gl (i := 5) rfl)
  have F_shares := func_of X G cd (x := "shares") (st := s_shares) (List.mem_of_getElem? (i := 6) rfl) (gl (i := 6) rfl)
  have F_is_evenly_shared := func_of X G cd (x := "is_evenly_shared") (st := s_is_evenly_shared) (List.mem_of_getElem? (i := 7) rfl) (gl (i := 7) rfl)
  have F_turned := func_of X G cd (x := "turned") (st := s_turned) (List.mem_of_getElem? (i := 8) rfl) (gl (i := 8) rfl)
  have F__law_taken := func_of X G cd (x := "_law_taken") (st := s__law_taken) (List.mem_of_getElem? (i := 9) rfl) (gl (i := 9) rfl)
  have F__law_pick := func_of X G cd (x := "_law_pick") (st := s__law_pick) (List.mem_of_getElem? (i := 10) rfl) (gl (i := 10) rfl)
  have F__law_alike := func_of X G cd (x := "_law_alike") (st := s__law_alike) (List.mem_of_getElem? (i := 11) rfl) (gl (i := 11) rfl)
  have F__law_turn := func_of X G cd (x := "_law_turn") (st := s__law_turn) (List.mem_of_getElem? (i := 12) rfl) (gl (i := 12) rfl)
  have F__law_pairs := func_of X G cd (x := "_law_pairs") (st := s__law_pairs) (List.mem_of_getElem? (i := 13) rfl) (gl (i := 13) rfl)
  have F__law_clubs := func_of X G cd (x := "_law_clubs") (st := s__law_clubs) (List.mem_of_getElem? (i := 14) rfl) (gl (i := 14) rfl)
  have F__law_within := func_of X G cd (x := "_law_within") (st := s__law_within) (List.mem_of_getElem? (i := 15) rfl) (gl (i := 15) rfl)
  have F__law_counts := func_of X G cd (x := "_law_counts") (st := s__law_counts) (List.mem_of_getElem? (i := 16) rfl) (gl (i := 16) rfl)
  have F__law_any_town := func_of X G cd (x := "_law_any_town") (st := s__law_any_town) (List.mem_of_getElem? (i := 17) rfl) (gl (i := 17) rfl)
  have F__law_begun := func_of X G cd (x := "_law_begun") (st := s__law_begun) (List.mem_of_getElem? (i := 18) rfl) (gl (i := 18) rfl)
  have F__law_called := func_of X G cd (x := "_law_called") (st := s__law_called) (List.mem_of_getElem? (i := 19) rfl) (gl (i := 19) rfl)
  have F__law_pencil := func_of X G cd (x := "_law_pencil") (st := s__law_pencil) (List.mem_of_getElem? (i := 20) rfl) (gl (i := 20) rfl)
  have F__law_plane := func_of X G cd (x := "_law_plane") (st := s__law_plane) (List.mem_of_getElem? (i := 21) rfl) (gl (i := 21) rfl)
  have F__law_pair_town := func_of X G cd (x := "_law_pair_town") (st := s__law_pair_town) (List.mem_of_getElem? (i := 22) rfl) (gl (i := 22) rfl)
  have F__law_on := func_of X G cd (x := "_law_on") (st := s__law_on) (List.mem_of_getElem? (i := 23) rfl) (gl (i := 23) rfl)
  obtain ⟨fd, ⟨oc, od, dV, kV, doc, pm, an, cdv, ct, osl, e, lk, hcd, hdv, hkw⟩, kp⟩ := cd.defs (d := dd "law" s_law) (List.mem_of_getElem? (i := 24) rfl)
  obtain ⟨cc, rfl⟩ := He.codeIn_ref hcd
  have hdn : dV = .none := by
    rcases hdv with ⟨h1, h2⟩ | ⟨h1, _⟩
    · first | exact h1 | exact h2
    · exact (h1 rfl).elim
  subst hdn
  subst e
  have ef := hmg.symm.trans (He.glo_ok X G (cd.facts (gl (i := 24) (x := "law") rfl)))
  cases ef
  refine ⟨K, X, PySem.W.fnOf "law" "law" (defArgs s_law) (defBody s_law) (defScope s_law) .none kV doc pm an (.ref cc) ct, tfL.map (He.cT K), spLaw K ((tfL.map (He.cT K)).map (·.2)), ?_, ?_, ?_, fun s u => .of_eq rfl, fun H a ns _ _ hT hS => ⟨a, ns, rfl, fun p hp => ?_, hS, fun _ => rfl⟩, fun base hK hN hTB => ?_⟩
  · intro p hp
    obtain ⟨q, hq, rfl⟩ := List.mem_map.mp hp
    exact c.empty q hq
  · intro p hp
    obtain ⟨q, hq, rfl⟩ := List.mem_map.mp hp
    exact c.out q hq
  · intro p hp
    obtain ⟨q, hq, rfl⟩ := List.mem_map.mp hp
    exact PySem.W.codeHd_of_K X (c.hd q hq)
  · obtain ⟨q, hq, rfl⟩ := List.mem_map.mp hp
    exact ⟨#[], hT q hq, trivial⟩
  have TB_is_club : GxR.TabB base mg (He.codeOf K ("is_club", none)) (He.cT K ("is_club", none)).2 ∧ (He.cT K ("is_club", none)).2 ∈ (tfL.map (He.cT K)).map (·.2) := by
    have hm : He.cT K ("is_club", none) ∈ tfL.map (He.cT K) := List.mem_map.mpr ⟨_, List.mem_of_getElem? (i := 0) rfl, rfl⟩
    have z := hTB _ hm
    exact ⟨⟨z.code, z.bm, z.gP⟩, List.mem_map.mpr ⟨_, hm, rfl⟩⟩
  have TB_wrong_town : GxR.TabB base mg (He.codeOf K ("wrong_town", none)) (He.cT K ("wrong_town", none)).2 ∧ (He.cT K ("wrong_town", none)).2 ∈ (tfL.map (He.cT K)).map (·.2) := by
    have hm : He.cT K ("wrong_town", none) ∈ tfL.map (He.cT K) := List.mem_map.mpr ⟨_, List.mem_of_getElem? (i := 1) rfl, rfl⟩
    have z := hTB _ hm
    exact ⟨⟨z.code, z.bm, z.gP⟩, List.mem_map.mpr ⟨_, hm, rfl⟩⟩
  have c_is_number := ok_is_number (P := PySem.Challenge.rw_pairclubs_k04_whole_shares.prog) (w := w) (base := base) (T := (tfL.map (He.cT K)).map (·.2)) F_is_number Tx
  have c_is_club := ok_is_club (P := PySem.Challenge.rw_pairclubs_k04_whole_shares.prog) (w := w) (base := base) (T := (tfL.map (He.cT K)).map (·.2)) F_is_club Tx (TB := TB_is_club) (c_is_number := c_is_number)
  have c_wrong_town := ok_wrong_town (P := PySem.Challenge.rw_pairclubs_k04_whole_shares.prog) (w := w) (base := base) (T := (tfL.map (He.cT K)).map (·.2)) F_wrong_town Tx (TB := TB_wrong_town) (c_is_club := c_is_club) (c_is_number := c_is_number)
  have c_is_town := ok_is_town (P := PySem.Challenge.rw_pairclubs_k04_whole_shares.prog) (w := w) (base := base) (T := (tfL.map (He.cT K)).map (·.2)) F_is_town Tx (c_wrong_town := c_wrong_town)
  have c_need_town := ok_need_town (P := PySem.Challenge.rw_pairclubs_k04_whole_shares.prog) (w := w) (base := base) (T := (tfL.map (He.cT K)).map (·.2)) F_need_town Tx (c_wrong_town := c_wrong_town)
  have c_shared_numbers := ok_shared_numbers (P := PySem.Challenge.rw_pairclubs_k04_whole_shares.prog) (w := w) (base := base) (T := (tfL.map (He.cT K)).map (·.2)) F_shared_numbers Tx
  have c_shares := ok_shares (P := PySem.Challenge.rw_pairclubs_k04_whole_shares.prog) (w := w) (base := base) (T := (tfL.map (He.cT K)).map (·.2)) F_shares Tx (c_need_town := c_need_town) (c_shared_numbers := c_shared_numbers)
  have c_is_evenly_shared := ok_is_evenly_shared (P := PySem.Challenge.rw_pairclubs_k04_whole_shares.prog) (w := w) (base := base) (T := (tfL.map (He.cT K)).map (·.2)) F_is_evenly_shared Tx (c_need_town := c_need_town) (c_shared_numbers := c_shared_numbers)
  have c_turned := ok_turned (P := PySem.Challenge.rw_pairclubs_k04_whole_shares.prog) (w := w) (base := base) (T := (tfL.map (He.cT K)).map (·.2)) F_turned Tx (c_is_town := c_is_town) (c_need_town := c_need_town)
  have c__law_taken := ok__law_taken (P := PySem.Challenge.rw_pairclubs_k04_whole_shares.prog) (w := w) (base := base) (T := (tfL.map (He.cT K)).map (·.2)) F__law_taken Tx
  have c__law_pick := ok__law_pick (P := PySem.Challenge.rw_pairclubs_k04_whole_shares.prog) (w := w) (base := base) (T := (tfL.map (He.cT K)).map (·.2)) F__law_pick Tx (c__law_taken := c__law_taken)
  have c__law_alike := ok__law_alike (P := PySem.Challenge.rw_pairclubs_k04_whole_shares.prog) (w := w) (base := base) (T := (tfL.map (He.cT K)).map (·.2)) F__law_alike Tx 6
  have c__law_turn := ok__law_turn (P := PySem.Challenge.rw_pairclubs_k04_whole_shares.prog) (w := w) (base := base) (T := (tfL.map (He.cT K)).map (·.2)) F__law_turn Tx (c__law_taken := c__law_taken)
  have c__law_pairs := ok__law_pairs (P := PySem.Challenge.rw_pairclubs_k04_whole_shares.prog) (w := w) (base := base) (T := (tfL.map (He.cT K)).map (·.2)) F__law_pairs Tx
  have c__law_clubs := ok__law_clubs (P := PySem.Challenge.rw_pairclubs_k04_whole_shares.prog) (w := w) (base := base) (T := (tfL.map (He.cT K)).map (·.2)) F__law_clubs Tx
  have c__law_within := ok__law_within (P := PySem.Challenge.rw_pairclubs_k04_whole_shares.prog) (w := w) (base := base) (T := (tfL.map (He.cT K)).map (·.2)) F__law_within Tx
  have c__law_counts := ok__law_counts (P := PySem.Challenge.rw_pairclubs_k04_whole_shares.prog) (w := w) (base := base) (T := (tfL.map (He.cT K)).map (·.2)) F__law_counts Tx (c__law_pairs := c__law_pairs) (c__law_within := c__law_within)
  have c__law_any_town := ok__law_any_town (P := PySem.Challenge.rw_pairclubs_k04_whole_shares.prog) (w := w) (base := base) (T := (tfL.map (He.cT K)).map (·.2)) F__law_any_town Tx (c__law_clubs := c__law_clubs) (c__law_pick := c__law_pick) (c__law_taken := c__law_taken)
  have c__law_begun := ok__law_begun (P := PySem.Challenge.rw_pairclubs_k04_whole_shares.prog) (w := w) (base := base) (T := (tfL.map (He.cT K)).map (·.2)) F__law_begun Tx (c__law_clubs := c__law_clubs) (c__law_pairs := c__law_pairs) (c__law_pick := c__law_pick) (c__law_taken := c__law_taken) (c__law_within := c__law_within)
  have c__law_called := ok__law_called (P := PySem.Challenge.rw_pairclubs_k04_whole_shares.prog) (w := w) (base := base) (T := (tfL.map (He.cT K)).map (·.2)) F__law_called Tx (c__law_turn := c__law_turn)
  have c__law_pencil := ok__law_pencil (P := PySem.Challenge.rw_pairclubs_k04_whole_shares.prog) (w := w) (base := base) (T := (tfL.map (He.cT K)).map (·.2)) F__law_pencil Tx
  have c__law_on := ok__law_on (P := PySem.Challenge.rw_pairclubs_k04_whole_shares.prog) (w := w) (base := base) (T := (tfL.map (He.cT K)).map (·.2)) F__law_on Tx
  have c__law_plane := ok__law_plane (P := PySem.Challenge.rw_pairclubs_k04_whole_shares.prog) (w := w) (base := base) (T := (tfL.map (He.cT K)).map (·.2)) F__law_plane Tx (c__law_on := c__law_on)
  have c__law_pair_town := ok__law_pair_town (P := PySem.Challenge.rw_pairclubs_k04_whole_shares.prog) (w := w) (base := base) (T := (tfL.map (He.cT K)).map (·.2)) F__law_pair_town Tx (c__law_begun := c__law_begun) (c__law_called := c__law_called) (c__law_counts := c__law_counts) (c__law_pencil := c__law_pencil) (c__law_plane := c__law_plane) (c__law_taken := c__law_taken)
  exact ok_law Tx lk hcd (c__law_alike := c__law_alike) (c__law_any_town := c__law_any_town) (c__law_clubs := c__law_clubs) (c__law_pair_town := c__law_pair_town) (c__law_pick := c__law_pick) (c__law_taken := c__law_taken) (c_is_evenly_shared := c_is_evenly_shared) (c_is_town := c_is_town) (c_shares := c_shares) (c_turned := c_turned)
end K4
open PySem PySem.W PySem.Calls PyProof.Rows
theorem PySem.Challenge.cw_pairclubs_k04_whole_shares_holds : PySem.Challenge.rw_pairclubs_k04_whole_shares.Holds := by
  w_on; o_law
  refine HandSHeadRun.head_any (r := OpenLaw.row PySem.Challenge.rw_pairclubs_k04_whole_shares) (q := view (OpenLaw.row PySem.Challenge.rw_pairclubs_k04_whole_shares).prog [31]) (H := K4.hkL) (ob := K4.obL) (M := 4000) (loose := K4.nmL) (d := HandSHeadRun.topDef (OpenLaw.row PySem.Challenge.rw_pairclubs_k04_whole_shares).prog 31) (kwd := []) K4.obL_eq
    (by kernel_rfl) (fun s => by kernel_rfl) K4.run_top (by kernel_rfl) (by kernel_rfl) (by kernel_rfl) (by rfl) (by first | assumption | decide +kernel) (by decide +kernel) ⟨rfl, rfl, rfl, rfl, rfl, by decide +kernel⟩ ?hw ?hc
  case hw => w_witness2
  case hc =>
    refine LamX.walk_ofTsE (l := PySem.Challenge.rw_pairclubs_k04_whole_shares) (n := 63) (k := 9) (x := "script") (CX := fun w => L2.CX PySem.Challenge.rw_pairclubs_k04_whole_shares.prog w) rfl (by decide) (by kernel_rfl) ⟨rfl, by decide, by decide⟩ ?F ?X
    case F =>
      intro w mg fa h Y G hmg0
      have hmg : mg ("law" : PySem.Str) = some (.ref fa) := by
        have e : (HandSHeadRun.topDef (OpenLaw.row PySem.Challenge.rw_pairclubs_k04_whole_shares).prog 31).name = ("law" : PySem.Str) := by kernel_rfl
        rw [← e]
        exact hmg0
      exact K4.law_at Y G hmg
    case X =>
      rintro w H s e s' ⟨_, _, _, _, _, _, _, _, _, _, _, _, h⟩
      exact h
