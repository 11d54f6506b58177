import PyProof.Rows.All
import Wide.All
import OpenK.AllK
import Wide.FinOn
import HandS.ForMost
import HandS.TupLen
import PyProof.DictMoreH
import KE.KDictWalk
import KE.KDictCopyH
import KE.KPairComp
import KE.KDictDisplayH
import HandS.TupSets
import KE.SortData
import KE.KDictSum
import HandS.Walk
import HandS.TupAny
import HandS.TupMul
import HandS.Deep
import KE.GoesEnum
import PyProof.WalksMore
import PyProof.MinMaxWalk
import PyProof.DictCompW
import HandS.DictComp
import HandS.Zip
import KE.KDictZip
import HandS.TryOnly
import HandS.SortInts
import PySem.Challenge.RW_norowstray_k38_whole_more_rows_make_more
set_option Elab.async false
set_option linter.all false
set_option maxRecDepth 100000
set_option maxHeartbeats 2000000
section
/-! Dicts whose keys are tuples of ints and None. -/
namespace L2.NW
open PySem PySem.Spec PyProof.Rows

/-- a key: a tuple of ints and None -/
abbrev TKey := List (Option Int)
def oV : Option Int → V
  | some i => .int i
  | none => .non
def toLeaf : Option Int → Leaf
  | some i => .num i
  | none => .none
theorem toLeaf_inj : ∀ {a b : Option Int}, toLeaf a = toLeaf b → a = b
  | some _, some _, e => by injection e with e; rw [e]
  | none, none, _ => rfl
  | some _, none, e => nomatch e
  | none, some _, e => nomatch e
theorem toLeaf_dec (a b : Option Int) : decide (toLeaf a = toLeaf b) = decide (a = b) := by
  by_cases h : a = b
  · subst h; simp
  · rw [decide_eq_false h, decide_eq_false fun e => h (toLeaf_inj e)]
def optKind (P : Program) (w : World) : KeyKind P w (Option Int) where
  is k v := (leafKind P w).is (toLeaf k) v
  hash k := (leafKind P w).hash (toLeaf k)
  inj := fun v a b ha hb => toLeaf_inj ((leafKind P w).inj v _ _ ha hb)
  byValue := fun k v h => (leafKind P w).byValue (toLeaf k) v h
  pyHash := fun hv h => (leafKind P w).pyHash hv h
  eqBool := fun {A E s a b u v Q} hu hv h => (leafKind P w).eqBool hu hv (by rw [toLeaf_dec]; exact h)
  «strs» := fun k x t v h => (leafKind P w).strs (toLeaf k) x t v h
abbrev nk (P : Program) (w : World) : HeapKind P w TKey := tupleKind (optKind P w)
theorem oV_is {P : Program} {w : World} {k : Option Int} {u : Value} (r : RelV (oV k) u) : (optKind P w).is k u = true := by
  cases k with
  | none => cases r; rfl
  | some i => obtain ⟨t, rfl⟩ := r; exact decide_eq_true rfl
theorem oV_inj {a b : Option Int} (e : oV a = oV b) : a = b := by
  cases a with
  | none => cases b with
    | none => rfl
    | some _ => exact nomatch e
  | some _ => cases b with
    | none => exact nomatch e
    | some _ => injection e with e; rw [e]
theorem oVs_inj : ∀ {a b : TKey}, a.map oV = b.map oV → a = b
  | [], [], _ => rfl
  | [], _ :: _, e => nomatch e
  | _ :: _, [], e => nomatch e
  | x :: a, y :: b, e => by
    simp only [List.map_cons, List.cons.injEq] at e
    rw [oV_inj e.1, oVs_inj e.2]
theorem oV_items {P : Program} {w : World} : ∀ {ks : TKey} {us : List Value}, Vals (ks.map oV) us → ItemsAre (optKind P w) ks us
  | [], us, r => by cases r; exact .nil
  | k :: ks, us, r => by
    cases r with
    | cons h t => exact .cons (oV_is h) (oV_items t)
/-- a row as a key -/
abbrev rowK (r : List Int) : TKey := r.map some
theorem rowK_V (r : List Int) : (rowK r).map oV = r.map V.int := by simp [rowK, oV]
theorem rowK_inj {a b : List Int} (h : rowK a = rowK b) : a = b := by
  have : (rowK a).map oV = (rowK b).map oV := by rw [h]
  rw [rowK_V, rowK_V] at this
  induction a generalizing b with
  | nil => cases b with
    | nil => rfl
    | cons _ _ => simp at h
  | cons x a ih => cases b with
    | nil => simp at h
    | cons y b =>
      simp only [rowK, List.map_cons, List.cons.injEq, Option.some.injEq] at h
      rw [h.1, ih h.2 (by simp only [List.map_cons, List.cons.injEq] at this; exact this.2)]

/-- a dict at d with the entries es, as it stands -/
def rawD (d : Addr) (es : Array DictEntry) (ep : Nat) : HO := .ext fun h => h.DictRaw d es ep
theorem rawD_ok {P : Program} {w : World} {H : Hp} {h : Heap} {d : Addr} {es : Array DictEntry} {ep : Nat} (x : h.DictRaw d es ep) : ObjOk P w H h d (rawD d es ep) :=
  ⟨x, let ⟨o, ho, _⟩ := x; ⟨o, ho⟩, fun _ _ p k => Heap.DictRaw.at p k⟩
/-- an entry stands for a key and a value -/
def EntIs (P : Program) (w : World) (H : Hp) (p : TKey × V) (q : TKey × Addr × Value) : Prop := p.1 = q.1 ∧ H q.2.1 = some (.tup (p.1.map oV)) ∧ RelV p.2 q.2.2
/-- the dict at d, its entries es: keys and values kvs in their order -/
structure NAt (P : Program) (w : World) (H : Hp) (d : Addr) (es : Array DictEntry) (ep : Nat) (kvs : List (TKey × V)) : Prop where
  ob : H d = some (rawD d es ep)
  sys : (d == sysModules) = false
  len : kvs.length ≤ sizeLine
  ent : ∃ xs : List (TKey × Addr × Value), Paired (EntIs P w H) kvs xs ∧ es.toList = xs.map (entryOfKey (nk P w)) ∧ (xs.map (·.1)).Nodup
def NDict (P : Program) (w : World) (H : Hp) (d : Addr) (kvs : List (TKey × V)) : Prop := ∃ es ep, NAt P w H d es ep kvs
section
variable {P : Program} {w : World} {H H' : Hp} {h : Heap} {d : Addr} {es : Array DictEntry} {ep : Nat} {kvs : List (TKey × V)}
/-- tuples stay -/
def TK (H H' : Hp) : Prop := ∀ b xs, H b = some (.tup xs) → H' b = some (.tup xs)
theorem TK.refl (H : Hp) : TK H H := fun _ _ h => h
theorem TK.trans {H H1 H2 : Hp} (a : TK H H1) (b : TK H1 H2) : TK H H2 := fun c xs h => b c xs (a c xs h)
theorem TK.new {H : Hp} {p : Addr} {o : HO} (h : H p = none) : TK H (upd H p o) := fun b xs e => by rw [upd_ne (ne_of_none e h)]; exact e
theorem TK.mut {H : Hp} {p : Addr} {o u : HO} (h : H p = some u) (hn : ∀ xs, u ≠ .tup xs) : TK H (upd H p o) := fun b xs e => by
  rw [upd_ne (ne_of e h fun z => hn xs z.symm)]; exact e
theorem TK.of_same {H H' : Hp} (s : Same H H') : TK H H' := fun b xs e => s b _ e
theorem rawD_ne {d : Addr} {es : Array DictEntry} {ep : Nat} (xs : List V) : rawD d es ep ≠ .tup xs := fun z => nomatch z
theorem paired_map {α β : Type} {F G : α → β → Prop} {l : List α} {m : List β} (h : Paired F l m) (f : ∀ a b, F a b → G a b) : Paired G l m := by
  induction h with
  | nil => exact .nil
  | cons r t ih => exact .cons (f _ _ r) ih
theorem NAt.keep (x : NAt P w H d es ep kvs) (hd : H' d = H d) (t : TK H H') : NAt P w H' d es ep kvs :=
  ⟨hd.trans x.ob, x.sys, x.len, let ⟨xs, p, q⟩ := x.ent; ⟨xs, paired_map p fun _ _ z => ⟨z.1, t _ _ z.2.1, z.2.2⟩, q⟩⟩
theorem NDict.keep (x : NDict P w H d kvs) (hd : H' d = H d) (t : TK H H') : NDict P w H' d kvs := let ⟨es, ep, y⟩ := x; ⟨es, ep, y.keep hd t⟩
theorem NDict.same (x : NDict P w H d kvs) (s : Same H H') : NDict P w H' d kvs := let ⟨es, ep, y⟩ := x; ⟨es, ep, y.keep ((s _ _ y.ob).trans y.ob.symm) (TK.of_same s)⟩
theorem NDict.ob (x : NDict P w H d kvs) : ∃ es ep, H d = some (rawD d es ep) := let ⟨es, ep, y⟩ := x; ⟨es, ep, y.ob⟩
theorem NDict.len (x : NDict P w H d kvs) : kvs.length ≤ sizeLine := let ⟨_, _, y⟩ := x; y.len
theorem paired_keys {l : List (TKey × V)} {m : List (TKey × Addr × Value)} (h : Paired (EntIs P w H) l m) : l.map (·.1) = m.map (·.1) := by
  induction h with
  | nil => rfl
  | cons r t ih => rw [List.map_cons, List.map_cons, r.1, ih]
theorem NDict.nodup (x : NDict P w H d kvs) : (kvs.map (·.1)).Nodup := by
  obtain ⟨_, _, _, _, _, xs, p, _, n⟩ := x
  rw [paired_keys p]; exact n
theorem tupKey_of {ks : TKey} {a : Addr} (ok : HOk P w H h) (e : H a = some (.tup (ks.map oV))) : (nk P w).is h ks a := by
  obtain ⟨_, its, r, o, h1, h2, n, h3⟩ := (show ObjOk P w H h a (.tup (ks.map oV)) from ok a _ e)
  exact ⟨o, its.toArray, n, h1, h2, h3, by simpa using oV_items r⟩
/-- in the model's words -/
theorem NAt.heap (x : NAt P w H d es ep kvs) (ok : HOk P w H h) : h.DictRaw d es ep ∧ ∃ xs : List (TKey × Addr × Value), Paired (EntIs P w H) kvs xs ∧ h.DictOfH (nk P w) d xs := by
  have r : h.DictRaw d es ep := (show ObjOk P w H h d (rawD d es ep) from ok d _ x.ob).1
  obtain ⟨xs, p, e, n⟩ := x.ent
  refine ⟨r, xs, p, ?_⟩
  obtain ⟨o, ho, hc, hd⟩ := r
  refine ⟨o, es, ep, ho, hc, hd, e, fun y hy => ?_, n⟩
  have all : ∀ {l : List (TKey × V)} {m : List (TKey × Addr × Value)}, Paired (EntIs P w H) l m → ∀ y ∈ m, (nk P w).is h y.1 y.2.1 := by
    intro l m q
    induction q with
    | nil => intro y hy; exact nomatch hy
    | @cons p q ps qs hq t ih =>
      intro y hy
      rcases List.mem_cons.mp hy with e | hy
      · subst e
        exact tupKey_of ok (by rw [← hq.1]; exact hq.2.1)
      · exact ih y hy
  exact all p y hy
theorem paired_val {l : List (TKey × V)} {m : List (TKey × Addr × Value)} (r : Paired (EntIs P w H) l m) (k : TKey) : RelO (valV l k) ((atKey m k).map (·.2)) := by
  induction r with
  | nil => exact True.intro
  | @cons p q ps qs h t ih =>
    obtain ⟨h1, _, h2⟩ := h
    by_cases e : p.1 = k
    · have e' : q.1 = k := h1.symm.trans e
      have b : atKey (q :: qs) k = some q.2 := by simp [atKey, List.find?_cons, e']
      rw [valV_pos e, b]; exact h2
    · have e' : ¬ q.1 = k := fun z => e (h1.trans z)
      have b : atKey (q :: qs) k = atKey qs k := by simp [atKey, List.find?_cons, e']
      rw [valV_neg e, b]; exact ih
theorem paired_put {l : List (TKey × V)} {m : List (TKey × Addr × Value)} (r : Paired (EntIs P w H) l m) (k : TKey) {b : Addr} {y : V} {u : Value} (hb : H b = some (.tup (k.map oV))) (ry : RelV y u) :
    Paired (EntIs P w H) (putK l k y) (storedH m k b u) := by
  have repl : ∀ {l : List (TKey × V)} {m : List (TKey × Addr × Value)}, Paired (EntIs P w H) l m → Paired (EntIs P w H) (l.map fun kv => if kv.1 = k then (kv.1, y) else kv) (m.map (putAt k u)) := by
    intro l m r
    induction r with
    | nil => exact .nil
    | @cons p q ps qs h t ih =>
      rw [List.map_cons, List.map_cons]
      refine .cons ?_ ih
      obtain ⟨h1, h2, h3⟩ := h
      unfold putAt
      by_cases e : p.1 = k
      · rw [if_pos e, if_pos (h1.symm.trans e)]; exact ⟨h1, h2, ry⟩
      · rw [if_neg e, if_neg (fun z => e (h1.trans z))]; exact ⟨h1, h2, h3⟩
  have e : (l.any fun kv => decide (kv.1 = k)) = (atKey m k).isSome := by
    rw [valV_any, (paired_val r k).isSome_eq, Option.isSome_map]
  unfold putK storedH
  rw [e]
  by_cases q : (atKey m k).isSome = true
  · rw [if_pos q, if_pos q]; exact repl r
  · rw [if_neg q, if_neg q]; exact Paired.snoc r ⟨rfl, hb, ry⟩
end

/-! ### by the model -/
section
variable {X : Cx} {pins : List (Addr × Obj)} {σ : St} {H : Hp} {s : Shared} {d b : Addr} {kvs : List (TKey × V)} {k : TKey} {v : V} {A : Around} {E : Value → Shared → Prop}
abbrev ND (X : Cx) (H : Hp) (d : Addr) (kvs : List (TKey × V)) : Prop := NDict X.prog X.w H d kvs
theorem n_in {Q : Value → Shared → Prop} (hu : A.units + 1 < cLine) (I : Inv X pins σ H s) (x : ND X H d kvs) (hb : H b = some (.tup (k.map oV))) (h : ∀ s', Inv X pins σ H s' → Q (.bool (valV kvs k).isSome) s') :
    wpAny (model X.prog X.w) A (compareOp .In (.ref b) (.ref d)) Q E s := by
  obtain ⟨es, ep, y⟩ := x
  obtain ⟨_, xs, p, dd⟩ := y.heap I.hok
  refine wpAny_in_heap (tupleKind_room_in1 hu) (tupKey_of I.hok hb) y.sys dd ?_
  have q := (paired_val p k).isSome_eq
  rw [Option.isSome_map] at q
  rw [← q]
  exact h _ (I.tok _)
theorem n_notIn {Q : Value → Shared → Prop} (hu : A.units + 1 < cLine) (I : Inv X pins σ H s) (x : ND X H d kvs) (hb : H b = some (.tup (k.map oV))) (h : ∀ s', Inv X pins σ H s' → Q (.bool (!(valV kvs k).isSome)) s') :
    wpAny (model X.prog X.w) A (compareOp .NotIn (.ref b) (.ref d)) Q E s := by
  obtain ⟨es, ep, y⟩ := x
  obtain ⟨_, xs, p, dd⟩ := y.heap I.hok
  refine wpAny_notIn_heap (tupleKind_room_in1 hu) (tupKey_of I.hok hb) y.sys dd ?_
  have q := (paired_val p k).isSome_eq
  rw [Option.isSome_map] at q
  rw [← q]
  exact h _ (I.tok _)
/-- what a store makes of the heap: d alone is another one -/
def NPut (P : Program) (w : World) (H : Hp) (d : Addr) (kvs : List (TKey × V)) (H' : Hp) : Prop := ∃ es ep, H' = upd H d (rawD d es ep) ∧ NAt P w H' d es ep kvs
theorem NPut.dict {P : Program} {w : World} {H H' : Hp} (x : NPut P w H d kvs H') : NDict P w H' d kvs := let ⟨es, ep, _, y⟩ := x; ⟨es, ep, y⟩
theorem NPut.ne {P : Program} {w : World} {H H' : Hp} (x : NPut P w H d kvs H') {b : Addr} (h : b ≠ d) : H' b = H b := by
  obtain ⟨es, ep, rfl, _⟩ := x
  exact upd_ne h
theorem NPut.tk {P : Program} {w : World} {H H' : Hp} (x : NPut P w H d kvs H') {ls : List (TKey × V)} (o : NDict P w H d ls) : TK H H' := by
  obtain ⟨es, ep, rfl, _⟩ := x
  obtain ⟨es', ep', q⟩ := o.ob
  exact TK.mut q rawD_ne
/-- the dict behind a store of the model's -/
theorem n_after {h' : Heap} {t' : Nat} {xs : List (TKey × Addr × Value)} {ls : List (TKey × V)} {es0 : Array DictEntry} {ep0 : Nat} (I : Inv X pins σ H s) (e : H d = some (rawD d es0 ep0)) (sys : (d == sysModules) = false) (hl : ls.length ≤ sizeLine)
    (p : Paired (EntIs X.prog X.w H) ls xs) (dd : h'.DictOfH (nk X.prog X.w) d xs) (hs : Heap.SameBut d s.heap h') :
    ∃ H', NPut X.prog X.w H d ls H' ∧ Inv X pins σ H' { s with heap := h', toks := t' } := by
  obtain ⟨o, es, ep, ho, hc, hd, he, _, hn⟩ := dd
  refine ⟨upd H d (rawD d es ep), ⟨es, ep, rfl, upd_same, sys, hl, xs, paired_map p fun _ _ z => ⟨z.1, TK.mut e rawD_ne _ _ z.2.1, z.2.2⟩, he, hn⟩, ?_⟩
  exact I.write (x := d) (e := d) (by rw [e]; exact True.intro) (.inl rfl) (fun b q hb z => (hs.2 b hb).trans z) ⟨o, ho⟩ (rawD_ok ⟨o, ho, hc, hd⟩)
theorem n_setItem {u : Value} {Q : Unit → Shared → Prop} (hu : A.units + 1 < cLine) (I : Inv X pins σ H s) (x : ND X H d kvs) (hb : H b = some (.tup (k.map oV))) (hl : kvs.length < sizeLine) (rv : RelV v u)
    (h : ∀ H' s', NPut X.prog X.w H d (putK kvs k v) H' → Inv X pins σ H' s' → Q () s') : wpAny (model X.prog X.w) A (setItem (.ref d) (.ref b) u) Q E s := by
  obtain ⟨es, ep, y⟩ := x
  obtain ⟨_, xs, p, dd⟩ := y.heap I.hok
  have hz : xs.length ≤ sizeLine := by rw [← Paired.length p]; exact y.len
  refine wpAny_setItem_heap (hsz := hz) (tupleKind_room_in1 hu) (tupKey_of I.hok hb) dd fun h' dd' hs => ?_
  obtain ⟨H', n, I'⟩ := n_after (t' := s.toks + (nk X.prog X.w).draws k) I y.ob y.sys (by have := length_putK kvs k v; omega) (paired_put p k hb rv) dd' hs
  exact h H' _ n I'
theorem n_setdefault {u : Value} {Q : Value → Shared → Prop} (hu : A.units + 1 < cLine) (I : Inv X pins σ H s) (x : ND X H d kvs) (hb : H b = some (.tup (k.map oV))) (hl : kvs.length < sizeLine) (rv : RelV v u)
    (h1 : ∀ y w' s', valV kvs k = some y → Inv X pins σ H s' → RelV y w' → Q w' s') (h2 : valV kvs k = none → ∀ H' s', NPut X.prog X.w H d (putK kvs k v) H' → Inv X pins σ H' s' → Q u s') :
    wpAny (model X.prog X.w) A (call (.builtin "dict.setdefault") [.ref d, .ref b, u]) Q E s := by
  obtain ⟨es, ep, y⟩ := x
  obtain ⟨_, xs, p, dd⟩ := y.heap I.hok
  have hz : xs.length ≤ sizeLine := by rw [← Paired.length p]; exact y.len
  have q := paired_val p k
  refine call_setdefault_heap (hsz := hz) (tupleKind_room_in1 hu) (tupKey_of I.hok hb) y.sys dd (fun a ha => ?_) fun hn h' dd' hs => ?_
  · rw [ha] at q
    cases e : valV kvs k with
    | none => rw [e] at q; exact (show False from q).elim
    | some z => rw [e] at q; exact h1 z a.2 _ e (I.tok _) q
  · rw [hn] at q
    cases e : valV kvs k with
    | some z => rw [e] at q; exact (show False from q).elim
    | none =>
      obtain ⟨H', n, I'⟩ := n_after (t' := s.toks + (nk X.prog X.w).draws k) I y.ob y.sys (by have := length_putK kvs k v; omega) (paired_put p k hb rv) dd' hs
      exact h2 e H' _ n I'
/-- d[k] = v of a comprehension, a display -/
theorem n_dictSet {u : Value} {Q : Unit → Shared → Prop} (hu : A.units < cLine) (I : Inv X pins σ H s) (x : ND X H d kvs) (hb : H b = some (.tup (k.map oV))) (hl : kvs.length < sizeLine) (rv : RelV v u)
    (h : ∀ H' s', NPut X.prog X.w H d (putK kvs k v) H' → Inv X pins σ H' s' → Q () s') : wpAny (model X.prog X.w) A (dictSet d (.ref b) u) Q E s := by
  obtain ⟨es, ep, y⟩ := x
  obtain ⟨_, xs, p, dd⟩ := y.heap I.hok
  have hz : xs.length ≤ sizeLine := by rw [← Paired.length p]; exact y.len
  refine wpAny_dictSet_heap (hsz := hz) (show (nk X.prog X.w).room A from hu) (tupKey_of I.hok hb) dd fun h' dd' hs => ?_
  obtain ⟨H', n, I'⟩ := n_after (t' := s.toks + (nk X.prog X.w).draws k) I y.ob y.sys (by have := length_putK kvs k v; omega) (paired_put p k hb rv) dd' hs
  exact h H' _ n I'
/-- a new empty one -/
theorem n_empty (H : Hp) (h : Heap) (P : Program) (w : World) (hb : sysModules < h.objs.size) : (h.push { cls := .type "dict", data := .dict #[] }).DictRaw h.objs.size #[] 0 :=
  ⟨_, Heap.get?_push_size _ rfl, ⟨rfl, rfl, rfl⟩, rfl⟩
theorem nat_new {P : Program} {w : World} {H : Hp} {p : Addr} (hs : (p == sysModules) = false) : NAt P w (upd H p (rawD p #[] 0)) p #[] 0 [] :=
  ⟨upd_same, hs, Nat.zero_le _, [], .nil, rfl, List.nodup_nil⟩
end
end L2.NW
end
section
/-! Dicts with tuple keys: the rules of expressions and statements. -/
namespace L2.NW
open PySem PySem.Spec PyProof.Rows
section
variable {X : Cx}
/-! ### in, not in, len, d[k] = v, setdefault, displays -/
def rNIn (P : Program) (w : World) (neg : Bool) : R2 := fun x y H Q => ∃ b d k kvs, x = .ref b ∧ y = .ref d ∧ H b = some (.tup (k.map oV)) ∧ NDict P w H d kvs ∧ Q (.bl (if neg then !(valV kvs k).isSome else (valV kvs k).isSome)) H
theorem op_nin (hu : X.A.units + 1 < cLine) : OpR X (compareOp .In) (rNIn X.prog X.w false) := by
  intro pins s σ H x y v u Q I rx ry h
  obtain ⟨b, d, k, kvs, rfl, rfl, hb, x, q⟩ := h
  cases rx; cases ry
  exact n_in hu I x hb fun s' I' => ⟨.bl _, H, I', rfl, q⟩
theorem op_nnotin (hu : X.A.units + 1 < cLine) : OpR X (compareOp .NotIn) (rNIn X.prog X.w true) := by
  intro pins s σ H x y v u Q I rx ry h
  obtain ⟨b, d, k, kvs, rfl, rfl, hb, x, q⟩ := h
  cases rx; cases ry
  exact n_notIn hu I x hb fun s' I' => ⟨.bl _, H, I', rfl, q⟩
def rNLen (P : Program) (w : World) : List V → Hp → VK → Prop := fun xs H Q => ∃ d kvs, xs = [.ref d] ∧ NDict P w H d kvs ∧ Q (.int (kvs.length : Int)) H
theorem call_nlen : CallR X (.builtin "len") (rNLen X.prog X.w) := by
  intro pins s σ H xs us Q I r h
  obtain ⟨d, kvs, rfl, x, q⟩ := h
  obtain ⟨u, rfl, rx⟩ := vals1 r
  cases rx
  obtain ⟨es, ep, y⟩ := x
  obtain ⟨_, zs, p, dd⟩ := y.heap I.hok
  have hl : kvs.length = zs.length := Paired.length p
  have hz := y.len
  refine call_len_dictH y.sys dd (by rw [← hl]; rw [sizeLine_eq] at hz; omega) ?_
  rw [← hl]
  exact ⟨.int _, H, I.tok _, ⟨_, rfl⟩, q⟩
def rNSet (P : Program) (w : World) : TSet := fun o i v H Q => ∃ d b k kvs, o = .ref d ∧ i = .ref b ∧ H b = some (.tup (k.map oV)) ∧ NDict P w H d kvs ∧ kvs.length < sizeLine ∧ ∀ H', NPut P w H d (putK kvs k v) H' → Q H'
theorem set_n (hu : X.A.units + 1 < cLine) : PSet X (rNSet X.prog X.w) := by
  intro pins s σ H o i v ov iv u Q I ro ri rv h
  obtain ⟨d, b, k, kvs, rfl, rfl, hb, x, hl, q⟩ := h
  cases ro; cases ri
  exact n_setItem hu I x hb hl rv fun H' s' n I' => ⟨H', I', q H' n⟩
variable {o e f : Expr} {td ty tx : TE} {apos cpos pos : Pos}
def tNSetd (P : Program) (w : World) (td ty tx : TE) : TE := fun σ H Q => td σ H fun x H1 => ∃ d, x = .ref d ∧ (∃ kvs, NDict P w H1 d kvs) ∧ ty σ H1 fun y H2 => tx σ H2 fun z H3 => ∃ b k kvs, y = .ref b ∧ H3 b = some (.tup (k.map oV)) ∧
  NDict P w H3 d kvs ∧ kvs.length < sizeLine ∧ (∀ v, valV kvs k = some v → Q v H3) ∧ (valV kvs k = none → ∀ H4, NPut P w H3 d (putK kvs k z) H4 → Q z H4)
theorem pe_nsetd (hu : X.A.units + 1 < cLine) (ho : PE X o td) (he : PE X e ty) (hf : PE X f tx) (m : M2 X o "setdefault" apos e f cpos) : PE X (.Call (.Attribute o "setdefault" apos) [e, f] [] cpos) (tNSetd X.prog X.w td ty tx) := by
  refine ⟨fun pins s σ H Q I h => ?_⟩
  refine wpAny_Call_method m.base m.few m.line PySem.F.plainAttrs_dict PySem.F.slot_dict_setdefault PySem.F.type_dict_setdefault (thn (ho.run pins s σ H _ I h) fun u s1 ⟨x, H1, I1, rx, d, ex, hd, q1⟩ => ?_)
  subst ex
  obtain rfl : u = Value.ref d := rx
  obtain ⟨kvs0, es, ep, y⟩ := hd
  obtain ⟨⟨od, ho', hc, hdt⟩, _⟩ := y.heap I1.hok
  refine ⟨⟨od, ho', hc.1⟩, fun b q => ?_, ?_⟩
  · cases q
    exact ⟨od, ho', hc.2.1⟩
  · rw [m.trees]
    refine Calls.callWith_builtin rfl (Calls.evalArgs_plain (Calls.spliced_cons (thn (he.run pins s1 σ H1 _ I1 q1) fun iv s2 ⟨y, H2, I2, ry, q2⟩ =>
      Calls.spliced_cons (thn (hf.run pins s2 σ H2 _ I2 q2) fun fv s3 ⟨z, H3, I3, rz, b, k, kvs, ey, hb, x3, hl, q3, q4⟩ => Calls.spliced_nil ?_))))
    subst ey
    cases ry
    exact n_setdefault hu I3 x3 hb hl rz (fun v w' s4 hv I4 rw' => ⟨v, _, I4, rw', q3 v hv⟩) fun hn H4 s4 n I4 => ⟨z, _, I4, rz, q4 hn H4 n⟩
/-- {} -/
def tNNew (P : Program) (w : World) : TE := fun _ H Q => ∀ p H', H p = none → NPut P w H p [] H' → Q (.ref p) H'
theorem nput_new {P : Program} {w : World} {H : Hp} {p : Addr} (hs : (p == sysModules) = false) : NPut P w H p [] (upd H p (rawD p #[] 0)) := ⟨_, _, rfl, nat_new hs⟩
theorem NPut.new_tk {P : Program} {w : World} {H H' : Hp} {d : Addr} {kvs : List (TKey × V)} (x : NPut P w H d kvs H') (h : H d = none) : Same H H' := by
  obtain ⟨es, ep, rfl, _⟩ := x
  intro b o e
  rw [upd_ne (ne_of_none e h)]; exact e
theorem pe_nnew : PE X (.Dict [] [] pos) (tNNew X.prog X.w) := ⟨fun pins s σ H Q I h => by
  have hs : (s.heap.objs.size == sysModules) = false := beq_eq_false_iff_ne.mpr (Nat.ne_of_gt I.big)
  exact wpAny_Dict_empty ⟨.ref s.heap.objs.size, _, I.laid (a := s.heap.objs.size) (o := rawD s.heap.objs.size #[] 0) (t' := s.toks) (fun _ _ q => Heap.get?_push_of_some _ q) (Nat.le_refl _) (rawD_ok ⟨_, Heap.get?_push_size _ rfl, ⟨rfl, rfl, rfl⟩, rfl⟩),
    rfl, h _ _ (I.hok.fresh (Nat.le_refl _)) (nput_new hs)⟩⟩
/-- {k: v} -/
def tNDisp (P : Program) (w : World) (tk tv : TE) : TE := fun σ H Q => ∀ p H1, H p = none → NPut P w H p [] H1 → tk σ H1 fun x H2 => tv σ H2 fun y H3 => ∃ b k, x = .ref b ∧ H3 b = some (.tup (k.map oV)) ∧ NDict P w H3 p [] ∧
  ∀ H4, NPut P w H3 p [(k, y)] H4 → Q (.ref p) H4
theorem pe_ndisp {k v : Expr} {tk tv : TE} (hu : X.A.units < cLine) (hk : PE X k tk) (hv : PE X v tv) : PE X (.Dict [some k] [v] pos) (tNDisp X.prog X.w tk tv) := by
  refine ⟨fun pins s σ H Q I h => ?_⟩
  have hs : (s.heap.objs.size == sysModules) = false := beq_eq_false_iff_ne.mpr (Nat.ne_of_gt I.big)
  have hn := I.hok.fresh (Nat.le_refl s.heap.objs.size)
  have I1 := I.laid (a := s.heap.objs.size) (o := rawD s.heap.objs.size #[] 0) (h' := s.heap.push { cls := .type "dict", data := .dict #[] }) (t' := s.toks) (fun _ _ q => Heap.get?_push_of_some _ q) (Nat.le_refl _) (rawD_ok ⟨_, Heap.get?_push_size _ rfl, ⟨rfl, rfl, rfl⟩, rfl⟩)
  rw [arm_eval_Dict, zip_pairTrees [some k] [v] X.env pos rfl rfl, dictDisplay_pairs (pairTrees [some k] [v] X.env pos) (by intro z; cases z) (by show 1 < 17; decide)]
  refine wpAny_bind (wpAny_standAt (wpAny_bind (wpAny_subDictH (knd := nk X.prog X.w) hu (by show 1 ≤ 15; decide) ?_)))
  refine pairTrees_cons_walk (thn (hk.run pins _ σ _ _ I1 (h _ _ hn (nput_new hs))) fun u s2 ⟨x, H2, I2, rx, q2⟩ => thn (hv.run pins s2 σ H2 _ I2 q2) fun u2 s3 ⟨y, H3, I3, ry, b, kk, ex, hb, x3, q3⟩ => pairTrees_nil_walk ?_)
  subst ex
  cases rx
  obtain ⟨es, ep, n3⟩ := x3
  obtain ⟨_, xs, p, dd⟩ := n3.heap I3.hok
  cases p
  refine ⟨[(kk, b, u2)], ⟨rfl, rfl, tupKey_of I3.hok hb, True.intro⟩, dd, fun h' tk dd' hsb => wpAny_pure ?_⟩
  obtain ⟨H4, n4, I4⟩ := n_after (ls := [(kk, y)]) (t' := tk) I3 n3.ob n3.sys (by show 1 ≤ sizeLine; decide) (.cons ⟨rfl, hb, ry⟩ .nil) dd' hsb
  exact ⟨.ref _, H4, I4, rfl, q3 H4 n4⟩
end

/-! ### walks -/
section
variable {P : Program} {w : World} {K : PySem.W.Frag} {tg : Expr} {d : Addr} {es : Array DictEntry} {ep : Nat}
theorem raw_of {X : Cx} {pins : List (Addr × Obj)} {σ : St} {H : Hp} {s : Shared} (I : Inv X pins σ H s) (h : H d = some (rawD d es ep)) : s.heap.DictRaw d es ep := (show ObjOk X.prog X.w H s.heap d (rawD d es ep) from I.hok d _ h).1
/-- keys, values, items of the dict at d, which stands as it stood -/
def ItNK (d : Addr) (es : Array DictEntry) (ep : Nat) : It :=
  ⟨fun i H => H d = some (rawD d es ep) ∧ ∃ h : i < es.size, ∃ q, es[i].key = .ref q, fun i H x H' => H' = H ∧ ∃ (h : i < es.size) (q : Addr), es[i].key = .ref q ∧ x = .ref q, fun i H => H d = some (rawD d es ep) ∧ es.size ≤ i⟩
def ItNV (d : Addr) (es : Array DictEntry) (ep : Nat) : It :=
  ⟨fun i H => H d = some (rawD d es ep) ∧ ∃ h : i < es.size, ∃ v, RelV v es[i].val, fun i H x H' => H' = H ∧ ∃ h : i < es.size, RelV x es[i].val, fun i H => H d = some (rawD d es ep) ∧ es.size ≤ i⟩
def ItNI (d : Addr) (es : Array DictEntry) (ep : Nat) : It :=
  ⟨fun i H => H d = some (rawD d es ep) ∧ ∃ h : i < es.size, (∃ q, es[i].key = .ref q) ∧ ∃ v, RelV v es[i].val, fun i H x H' => ∃ (h : i < es.size) (T q : Addr) (v : V), es[i].key = .ref q ∧ RelV v es[i].val ∧ x = .ref T ∧ H T = none ∧ H' = upd H T (.tup [.ref q, v]), fun i H => H d = some (rawD d es ep) ∧ es.size ≤ i⟩
theorem turn_nkeys (it : Addr) : Turn P w K tg (ItNK d es ep) [it] it (fun i h => h.IsKeyIter it d i es.size ep) where
  mem := by simp
  obj := fun i h st b hb => by
    have e : b = it := by simpa using hb
    subst e
    obtain ⟨oi, e, c, dd⟩ := st
    exact ⟨oi, e, fun v z => by rw [dd] at z; cases z⟩
  keep := fun i h h' st k => let ⟨o, e, r⟩ := st; ⟨o, k it (by simp) o e, r⟩
  item := by
    intro X hP hw hK hc i pins s σ H E I hf st hg
    subst hP hw hK
    obtain ⟨hd, hi, q, hq⟩ := hg
    obtain ⟨f0, f1, f2, f3, f4, f5⟩ := hf it (by simp)
    refine wpAny_pyNext_keys_item_raw st (raw_of I hd) hi fun h' st' sb => ?_
    have I1 : Inv X pins σ H { s with heap := h' } := I.turned (t' := s.toks) (fun b ob hb e => (sb.2 b hb).trans e) f0 f1 f3 f4 f5
    obtain ⟨oi, e, c, dd⟩ := id st'
    exact ⟨_, rfl, go_of (s := { s with heap := h' }) e c dd (by decide) ⟨.ref q, H, I1, hq, ⟨rfl, hi, q, hq, rfl⟩, st', fun b hb => (hf b hb).1⟩⟩
  done := by
    intro X hP hw hK hc i pins s σ H E I hf st hg
    subst hP hw hK
    obtain ⟨hd, hi⟩ := hg
    obtain ⟨f0, f1, f2, f3, f4, f5⟩ := hf it (by simp)
    exact wpAny_pyNext_keys_end_raw (I.ok.hd hc) st (raw_of I hd) hi fun h' eb => ⟨rfl, I.turned (t' := s.toks) (fun b ob hb e => eb b ob hb e) f0 f1 f3 f4 f5⟩
  self := fun A i s Q E st h => by
    refine wpAny_pyIter_slot st.typeIs F.slot_dict_keyiterator_iter (wpAny_call_entry F.slot_dict_keyiterator_iter st.typeIs F.entry_dict_keyiterator_iter ?_ (F.args_dict_keyiterator_iter_1 _))
    show wpAny _ _ (ret (.ref it)) _ _ s
    exact wpAny_pure ⟨_, rfl, "dict_keyiterator", _, st.typeIs, F.slot_dict_keyiterator_next.lookup, h⟩
theorem turn_nvals (it : Addr) : Turn P w K tg (ItNV d es ep) [it] it (fun i h => h.IsValIter it d i es.size ep) where
  mem := by simp
  obj := fun i h st b hb => by
    have e : b = it := by simpa using hb
    subst e
    obtain ⟨oi, e, c, dd⟩ := st
    exact ⟨oi, e, fun v z => by rw [dd] at z; cases z⟩
  keep := fun i h h' st k => let ⟨o, e, r⟩ := st; ⟨o, k it (by simp) o e, r⟩
  item := by
    intro X hP hw hK hc i pins s σ H E I hf st hg
    subst hP hw hK
    obtain ⟨hd, hi, v, hv⟩ := hg
    obtain ⟨f0, f1, f2, f3, f4, f5⟩ := hf it (by simp)
    refine wpAny_pyNext_values_item_raw st (raw_of I hd) hi fun h' st' sb => ?_
    have I1 : Inv X pins σ H { s with heap := h' } := I.turned (t' := s.toks) (fun b ob hb e => (sb.2 b hb).trans e) f0 f1 f3 f4 f5
    obtain ⟨oi, e, c, dd⟩ := id st'
    exact ⟨_, rfl, go_of (s := { s with heap := h' }) e c dd (by decide) ⟨v, H, I1, hv, ⟨rfl, hi, hv⟩, st', fun b hb => (hf b hb).1⟩⟩
  done := by
    intro X hP hw hK hc i pins s σ H E I hf st hg
    subst hP hw hK
    obtain ⟨hd, hi⟩ := hg
    obtain ⟨f0, f1, f2, f3, f4, f5⟩ := hf it (by simp)
    exact wpAny_pyNext_values_end_raw (I.ok.hd hc) st (raw_of I hd) hi fun h' eb => ⟨rfl, I.turned (t' := s.toks) (fun b ob hb e => eb b ob hb e) f0 f1 f3 f4 f5⟩
  self := fun A i s Q E st h => wpAny_pyIter_valiter st h
theorem turn_nitems {elts : List Expr} {kk : Nat} {tpos : Pos} (it : Addr) : Turn P w K (.Tuple elts kk tpos) (ItNI d es ep) [it] it (fun i h => ∃ ok ov, IsItemIter h it d i es.size ep ok ov) where
  mem := by simp
  obj := fun i h st b hb => by
    have e : b = it := by simpa using hb
    subst e
    obtain ⟨ok, ov, e⟩ := st
    exact ⟨_, e, fun v z => nomatch z⟩
  keep := fun i h h' st k => let ⟨ok, ov, e⟩ := st; ⟨ok, ov, k it (by simp) _ e⟩
  item := by
    intro X hP hw hK hc i pins s σ H E I hf st hg
    subst hP hw hK
    obtain ⟨hd, hi, ⟨q, hq⟩, v, hv⟩ := hg
    obtain ⟨ok, ov, he⟩ := st
    have hlt : it < s.heap.objs.size := Heap.lt_size he
    refine wpAny_pyNext_items_item_raw he (raw_of I hd) hi fun h' ho hT hz hk => ?_
    refine ⟨_, rfl, wpAny_letOwnedTupleGo_items (s := { s with heap := h' }) ho fun h'' he' sb => ?_⟩
    have hT2 : h''.get? s.heap.objs.size = some { cls := .type "tuple", data := .seq #[es[i].key, es[i].val] } := (sb.2 _ (Nat.ne_of_gt hlt)).trans hT
    have new : ObjOk X.prog X.w (upd H s.heap.objs.size (.tup [.ref q, v])) h'' s.heap.objs.size (.tup [.ref q, v]) :=
      ⟨by show 2 ≤ sizeLine; decide, [es[i].key, es[i].val], .cons hq (.cons hv .nil), ⟨_, hT2, rfl, _, rfl⟩⟩
    have I1 : Inv X pins σ (upd H s.heap.objs.size (.tup [.ref q, v])) { s with heap := h'' } :=
      I.turnedNew (t' := s.toks) (ch := [it]) (fun b ob hb e => (sb.2 b (by simpa using hb)).trans (hk b ob (by simpa using hb) e)) hf (Nat.le_refl _) new
    refine ⟨.ref s.heap.objs.size, _, I1, rfl, ⟨hi, _, q, v, hq, hv, rfl, I.hok.fresh (Nat.le_refl _), rfl⟩, ⟨_, _, he'⟩, fun b hb => ?_⟩
    have e : b = it := by simpa using hb
    rw [e, upd_ne (Nat.ne_of_lt hlt)]
    exact (hf it (by simp)).1
  done := by
    intro X hP hw hK hc i pins s σ H E I hf st hg
    subst hP hw hK
    obtain ⟨hd, hi⟩ := hg
    obtain ⟨f0, f1, f2, f3, f4, f5⟩ := hf it (by simp)
    obtain ⟨ok, ov, he⟩ := st
    exact wpAny_pyNext_items_end_raw (I.ok.hd hc) he (raw_of I hd) hi fun h' eb => ⟨rfl, I.turned (t' := s.toks) (fun b ob hb e => eb b ob hb e) f0 f1 f3 f4 f5⟩
  self := fun A i s Q E st h => let ⟨_, _, e⟩ := st; PySem.W.kcp_self e h
end
def iNK (td : TE) : TI := fun σ H R => td σ H fun x H1 => ∃ d es ep, x = .ref d ∧ (d == sysModules) = false ∧ H1 d = some (rawD d es ep) ∧ R (ItNK d es ep) H1
def iNV (td : TE) : TI := fun σ H R => td σ H fun x H1 => ∃ d es ep, x = .ref d ∧ (d == sysModules) = false ∧ H1 d = some (rawD d es ep) ∧ R (ItNV d es ep) H1
def iNI (td : TE) : TI := fun σ H R => td σ H fun x H1 => ∃ d es ep, x = .ref d ∧ (d == sysModules) = false ∧ H1 d = some (rawD d es ep) ∧ R (ItNI d es ep) H1
section
variable {X : Cx} {tg e : Expr} {td : TE} {apos cpos : Pos}
theorem pi_nkeys (he : PE X e td) : PI X tg e (iNK td) := by
  refine ⟨fun pins s σ H R I h => ?_⟩
  refine thn (he.run pins s σ H _ I h) fun u s1 ⟨x, H1, I1, rx, d, es, ep, ex, sys, hd, q⟩ => ?_
  subst ex
  obtain rfl : u = Value.ref d := rx
  exact wpAny_pyIter_dict_raw sys (raw_of I1 hd) (pi_one (tk := s1.toks) I1 _ (turn_nkeys _) ⟨_, Heap.get?_push_size _ rfl, rfl, rfl⟩ q)
theorem pi_nvals (he : PE X e td) (hbase : attributeBase e "values" X.env (eval e X.env) = eval e X.env := by rfl) (hline : (apos.endLine == cpos.line) = true := by rfl) : PI X tg (.Call (.Attribute e "values" apos) [] [] cpos) (iNV td) := by
  refine ⟨fun pins s σ H R I h => ?_⟩
  refine wpAny_Call_method (T := "dict") (id := "dict.values") hbase rfl hline F.plainAttrs_dict F.slot_dict_values F.type_dict_values (thn (he.run pins s σ H _ I h) fun u s1 ⟨x, H1, I1, rx, d, es, ep, ex, sys, hd, q⟩ => ?_)
  subst ex
  obtain rfl : u = Value.ref d := rx
  have hm := raw_of I1 hd
  obtain ⟨od, hod, hcd, hdd⟩ := id hm
  refine ⟨hm.typeIs, fun b z => by cases z; exact ⟨od, hod, hcd.2.1⟩, ?_⟩
  have I2 : Inv X pins σ H1 { s1 with heap := s1.heap.push { cls := .type "dict_values", data := .fields #[.ref d] } } := I1.kept (t' := s1.toks) fun b ob q => Heap.get?_push_of_some _ q
  have fin : wpAny (model X.prog X.w) X.A (pyIter (.ref s1.heap.objs.size)) (PIE X pins σ tg R) X.xe { s1 with heap := s1.heap.push { cls := .type "dict_values", data := .fields #[.ref d] } } :=
    wpAny_pyIter_values_raw (d := d) ⟨_, Heap.get?_push_size _ rfl, rfl, rfl⟩ (raw_of I2 hd) (pi_one (tk := s1.toks) I2 _ (turn_nvals _) ⟨_, Heap.get?_push_size _ rfl, rfl, rfl⟩ q)
  show wpAny _ _ (callWith cpos (.builtin "dict.values") [.ref d] [] []) _ X.xe s1
  exact method_meetsIn F.slot_dict_values F.entry_dict_values rfl (PySem.evalArgs_none ⟨rfl, hm.typeIs, F.args_dict_values_1 _, _, meets_dict_values_raw d sys, ⟨es, ep, hm⟩, fin⟩)
theorem pi_nitems {elts : List Expr} {kk : Nat} {tpos : Pos} (he : PE X e td) (hbase : attributeBase e "items" X.env (eval e X.env) = eval e X.env := by rfl) (hline : (apos.endLine == cpos.line) = true := by rfl) :
    PI X (.Tuple elts kk tpos) (.Call (.Attribute e "items" apos) [] [] cpos) (iNI td) := by
  refine ⟨fun pins s σ H R I h => ?_⟩
  refine wpAny_Call_method (T := "dict") (id := "dict.items") hbase rfl hline F.plainAttrs_dict F.slot_dict_items F.type_dict_items (thn (he.run pins s σ H _ I h) fun u s1 ⟨x, H1, I1, rx, d, es, ep, ex, sys, hd, q⟩ => ?_)
  subst ex
  obtain rfl : u = Value.ref d := rx
  have hm := raw_of I1 hd
  obtain ⟨od, hod, hcd, hdd⟩ := id hm
  refine ⟨hm.typeIs, fun b z => by cases z; exact ⟨od, hod, hcd.2.1⟩, ?_⟩
  have I2 : Inv X pins σ H1 { s1 with heap := s1.heap.push { cls := .type "dict_items", data := .fields #[.ref d] } } := I1.kept (t' := s1.toks) fun b ob q => Heap.get?_push_of_some _ q
  have fin : wpAny (model X.prog X.w) X.A (pyIter (.ref s1.heap.objs.size)) (PIE X pins σ (.Tuple elts kk tpos) R) X.xe { s1 with heap := s1.heap.push { cls := .type "dict_items", data := .fields #[.ref d] } } :=
    wpAny_pyIter_items_raw (d := d) ⟨_, Heap.get?_push_size _ rfl, rfl, rfl⟩ (raw_of I2 hd) (pi_one (tk := s1.toks) I2 _ (turn_nitems _) ⟨.none, .none, Heap.get?_push_size _ rfl⟩ q)
  show wpAny _ _ (callWith cpos (.builtin "dict.items") [.ref d] [] []) _ X.xe s1
  exact method_meetsIn F.slot_dict_items F.entry_dict_items rfl (PySem.evalArgs_none ⟨rfl, hm.typeIs, F.args_dict_items_1 _, _, meets_dict_items_raw d sys, ⟨es, ep, hm⟩, fin⟩)
end
end L2.NW
end
section
/-! sorted of a dict with tuple keys, of a set of tuples: some arrangement. -/
namespace L2.NW
open PySem PySem.Spec PyProof.Rows
/-- rows that stand at addresses -/
abbrev RAt (K : PySem.W.Frag) (H : Hp) (p : Addr × List Int) : Prop := SqT K H p.1 (p.2.map V.int)
section
variable {P : Program} {w : World} {A : Around} {E : Value → Shared → Prop} {s : Shared}
theorem reads_ints {h : Heap} : ∀ {us : List Value} {ns : List Int}, Vals (ns.map V.int) us → ReadsAll h us (ns.map PyData.int) []
  | us, [], r => by cases r; exact .nil
  | us, n :: ns, r => by
    cases r with
    | cons h1 t =>
      obtain ⟨tk, rfl⟩ := h1
      have := ReadsAll.cons (h := h) (Reads.int n tk) (reads_ints t)
      exact this
theorem depth_row (r : List Int) : (PyData.tuple (r.map .int)).depth ≤ 1 := by
  have := PySem.W.depth_ints r
  show PyData.depthAll _ + 1 ≤ 1
  omega
theorem eachIs_map {α β : Type} {R : α → β → Prop} (f : β → α) : ∀ (l : List β), (∀ b ∈ l, R (f b) b) → PySem.W.EachIs R (l.map f) l
  | [], _ => .nil
  | b :: l, h => .cons (h b List.mem_cons_self) (eachIs_map f l fun c hc => h c (List.mem_cons_of_mem _ hc))
theorem eachIs_eq {α β : Type} (f : β → α) : ∀ {as : List α} {bs : List β}, PySem.W.EachIs (fun a b => a = f b) as bs → as = bs.map f
  | _, _, .nil => rfl
  | _, _, .cons e t => by rw [List.map_cons, e, eachIs_eq f t]
/-- a list of rows is sorted in its place -/
theorem sort_rows {a : Addr} {n : Nat} {ps : List (Addr × List Int)} {Q : Value → Shared → Prop} (ho : s.heap.get? a = some (seqObj "list" (ps.map fun p => Value.ref p.1).toArray n))
    (hr : ∀ p ∈ ps, ∃ its : List Value, Vals (p.2.map V.int) its ∧ IsTup s.heap p.1 its.toArray) (hne : ∀ p ∈ ps, p.2 ≠ []) (hL : ps.length ≤ sizeLine) (hu : A.units + 2 < cLine)
    (h : ∀ qs : List (Addr × List Int), qs.Perm ps → Q .none { s with heap := sortedHeap s.heap a (ps.map fun p => Value.ref p.1) (qs.map fun p => Value.ref p.1).toArray }) :
    wpAny (model P w) A (call (.builtin "list.sort") [.ref a]) Q E s := by
  have rd : ∀ p ∈ ps, Reads s.heap (.ref p.1) (.tuple (p.2.map .int)) [] := fun p hp => by
    obtain ⟨its, rv, o, ho', hc, n', hd⟩ := hr p hp
    exact Reads.tuple ho' hc hd (by simpa using reads_ints rv)
  refine PySem.W.list_sort_data (β := {p // p ∈ ps}) (vs := ps.map fun p => Value.ref p.1) (bs := ps.attach) (enc := fun b => .tuple (b.1.2.map .int)) (R := fun v b => v = Value.ref b.1.1) ho ?_ ?_ ?_ ?_ (by rw [List.length_attach]; exact hL) (fun b _ => ?_) fun out hl he => ?_
  · have := eachIs_map (R := fun v (b : {p // p ∈ ps}) => v = Value.ref b.1.1) (fun b => Value.ref b.1.1) ps.attach fun _ _ => rfl
    have e : ps.attach.map (fun b => Value.ref b.1.1) = ps.map fun p => Value.ref p.1 := by
      rw [show (fun b : {p // p ∈ ps} => Value.ref b.1.1) = (fun p : Addr × List Int => Value.ref p.1) ∘ Subtype.val from rfl, ← List.map_map, List.attach_map_subtype_val]
    rw [e] at this
    exact this
  · have := eachIs_map (R := fun v (b : {p // p ∈ ps}) => ∃ as, Reads s.heap v (.tuple (b.1.2.map .int)) as ∧ a ∉ as) (fun b => Value.ref b.1.1) ps.attach fun b _ => ⟨[], rd b.1 b.2, by simp⟩
    have e : ps.attach.map (fun b => Value.ref b.1.1) = ps.map fun p => Value.ref p.1 := by
      rw [show (fun b : {p // p ∈ ps} => Value.ref b.1.1) = (fun p : Addr × List Int => Value.ref p.1) ∘ Subtype.val from rfl, ← List.map_map, List.attach_map_subtype_val]
    rw [e] at this
    exact this
  · exact PySem.W.AllAlike.of fun b b' => PySem.W.alike_ints _ _
  · refine PySem.W.Sortable.tuples fun b => ?_
    have := hne b.1 b.2
    cases e : b.1.2 with
    | nil => exact absurd e this
    | cons x r => exact ⟨_, _, rfl⟩
  · have := depth_row b.1.2
    show A.units + 1 + _ < _
    omega
  · have e := eachIs_eq (fun b : {p // p ∈ ps} => Value.ref b.1.1) he
    have pm : ((ps.attach.mergeSort (PySem.W.dataLe false fun b => .tuple (b.1.2.map .int))).map Subtype.val).Perm ps := by
      have := (List.mergeSort_perm ps.attach (PySem.W.dataLe false fun b => .tuple (b.1.2.map .int))).map Subtype.val
      rw [List.attach_map_subtype_val] at this
      exact this
    have q := h _ pm
    rw [List.map_map] at q
    rw [e]
    exact q
end
section
variable {X : Cx} {pins : List (Addr × Obj)} {σ : St} {H : Hp} {s : Shared}
/-- behind the collecting: the new list, sorted -/
theorem sorted_end {A : Around} {s1 : Shared} {ps : List (Addr × List Int)} {Q : VK} {E : Value → Shared → Prop} (I1 : Inv X pins σ H s1) (hr : ∀ p ∈ ps, RAt X.K H p) (hne : ∀ p ∈ ps, p.2 ≠ []) (hL : ps.length ≤ sizeLine) (hu : A.units + 2 < cLine)
    (q : ∀ (qs : List (Addr × List Int)) (p : Addr), qs.Perm ps → H p = none → Q (.ref p) (upd H p (.lst (qs.map fun z => V.ref z.1)))) :
    wpAny (model X.prog X.w) A (do let l ← newList (ps.map fun p => Value.ref p.1); let _ ← holding [l] (call (.builtin "list.sort") [l]); ret l) (fun fin s' => ∃ r, fin = .done (.ret r) ∧ EP X pins σ Q r s') E s1 := by
  refine wpAny_bind (wpAny_newList ?_ (by rw [List.length_map]; exact hL))
  have hoL : (s1.heap.push (seqObj "list" (ps.map fun p => Value.ref p.1).toArray 0)).get? s1.heap.objs.size = some (seqObj "list" (ps.map fun p => Value.ref p.1).toArray 0) := Heap.get?_push_size _ rfl
  refine wpAny_bind (wpAny_holding (sort_rows (s := { s1 with heap := s1.heap.push (seqObj "list" (ps.map fun p => Value.ref p.1).toArray 0) }) hoL (fun p hp => ?_) hne hL hu fun qs pm => ?_))
  · obtain ⟨its, rv, ⟨o, ho, hc, n, hd⟩, _⟩ := I1.tuple (hr p hp)
    exact ⟨its, rv, o, Heap.get?_push_of_some _ ho, hc, n, hd⟩
  · obtain ⟨c, hcc⟩ := sortedHeap_at (vs := ps.map fun p => Value.ref p.1) (out := (qs.map fun p => Value.ref p.1).toArray) hoL
    have hn : H s1.heap.objs.size = none := I1.hok.fresh (Nat.le_refl _)
    refine wpAny_pure ⟨_, rfl, .ref s1.heap.objs.size, upd H s1.heap.objs.size (.lst (qs.map fun z => V.ref z.1)), I1.laid (t' := s1.toks) (fun b u e => ?_) (Nat.le_refl _) ⟨by rw [List.length_map, pm.length_eq]; exact hL, _, c, vals_of_refs qs, hcc⟩, rfl, q qs _ pm hn⟩
    have hb : b < s1.heap.objs.size := Heap.lt_size e
    rw [sortedHeap_old (Nat.ne_of_lt hb) (by rw [size_push']; exact Nat.lt_succ_of_lt hb)]
    exact Heap.get?_push_of_some _ e
end
section
variable {X : Cx}
/-- sorted(d): the keys in some order -/
def rSortN (P : Program) (w : World) : List V → Hp → VK → Prop := fun vs H Q => ∃ (d : Addr) (kvs : List (TKey × V)) (rs : List (List Int)), vs = [.ref d] ∧ NDict P w H d kvs ∧ kvs.map (·.1) = rs.map rowK ∧ (∀ r ∈ rs, r ≠ []) ∧
  ∀ (qs : List (Addr × List Int)) (p : Addr), (qs.map (·.2)).Perm rs → (∀ q ∈ qs, H q.1 = some (.tup (q.2.map V.int))) → H p = none → Q (.ref p) (upd H p (.lst (qs.map fun z => V.ref z.1)))
theorem cr_sortN (hc : X.calm = true) (hu : X.A.units + 64 < cLine) : CallR X (.builtin "sorted") (rSortN X.prog X.w) := by
  intro pins s σ H xs us Q I r h
  obtain ⟨d, kvs, rs, rfl, ⟨es, ep, y⟩, hk, hne, q⟩ := h
  obtain ⟨u, rfl, rx⟩ := vals1 r
  cases rx
  obtain ⟨raw, _⟩ := y.heap I.hok
  obtain ⟨zs, pr, he, hn⟩ := y.ent
  have hlen : es.size = zs.length := size_of_entries he
  have hl2 : kvs.length = zs.length := Paired.length pr
  have hz := y.len
  have hrs : rs.length = zs.length := by rw [← hl2, ← List.length_map (f := rowK), ← hk, List.length_map]
  -- the keys: addresses and rows
  have keys : ∀ {l : List (TKey × V)} {m : List (TKey × Addr × Value)} {rs : List (List Int)}, Paired (EntIs X.prog X.w H) l m → l.map (·.1) = rs.map rowK → ∃ ps : List (Addr × List Int), ps.map (·.2) = rs ∧ m.map (fun z => Value.ref z.2.1) = ps.map (fun p => Value.ref p.1) ∧ ∀ p ∈ ps, H p.1 = some (.tup (p.2.map V.int)) := by
    intro l m rs pr
    induction pr generalizing rs with
    | nil =>
      intro e
      cases rs with
      | nil => exact ⟨[], rfl, rfl, fun _ h => nomatch h⟩
      | cons _ _ => cases e
    | @cons a b ps qs hh t ih =>
      intro e
      cases rs with
      | nil => cases e
      | cons r rs =>
        simp only [List.map_cons, List.cons.injEq] at e
        obtain ⟨ws, h1, h2, h3⟩ := ih e.2
        refine ⟨(b.2.1, r) :: ws, by rw [List.map_cons, h1], by rw [List.map_cons, List.map_cons, h2], fun p hp => ?_⟩
        rcases List.mem_cons.mp hp with rfl | hp
        · have := hh.2.1
          rw [e.1, rowK_V] at this
          exact this
        · exact h3 p hp
  obtain ⟨ps, h1, h2, h3⟩ := keys pr hk
  have hps : ps.length = zs.length := by
    have := congrArg List.length h2
    rw [List.length_map, List.length_map] at this
    omega
  refine Calls.call_function_entry kind_sorted plain_sorted entry_sorted (args_sorted1 _) ?_
  unfold Builtin.«sorted»
  refine wpAny_bind (m := checkCount "sorted" 1 1 _) (wpAny_pure ?_)
  refine wpAny_bind (PySem.W.kdu_collect (A := X.A.in1) (KdlSrc.rawDict (prog := X.prog) (w := X.w) (d := d) (es := es) (ep := ep) y.sys) (I.ok.hd hc) raw (by omega) fun h' tk acc hkp hacc => ?_)
  have I1 : Inv X pins σ H { s with heap := h', toks := tk } := I.kept hkp
  have eacc : acc.toList = ps.map fun p => Value.ref p.1 := by
    rw [← h2]
    refine List.ext_getElem (by rw [Array.length_toList, hacc.1, List.length_map, hlen]) fun j j1 j2 => ?_
    obtain ⟨hi, e⟩ := hacc.2 j acc.toList[j] (by rw [← Array.getElem?_toList]; exact List.getElem?_eq_getElem j1)
    rw [e]
    have e3 := entry_at he j
    rw [Array.getElem?_eq_getElem hi, List.getElem?_eq_getElem (by rw [← hlen]; exact hi)] at e3
    have e4 := Option.some.inj e3
    rw [e4, List.getElem_map]
    rfl
  rw [eacc]
  refine sorted_end (A := X.A.in1) I1 (fun p hp => SqT.of (h3 p hp)) (fun p hp => hne _ (by rw [← h1]; exact List.mem_map.mpr ⟨p, hp, rfl⟩)) (by omega) (by show X.A.units + 1 + 2 < cLine; omega) fun qs p pm hp => ?_
  exact q qs p (by rw [← h1]; exact pm.map _) (fun z hz => h3 z (pm.mem_iff.mp hz)) hp
/-- sorted(set) -/
def rSortS (K : PySem.W.Frag) (P : Program) (w : World) : List V → Hp → VK → Prop := fun vs H Q => ∃ (a : Addr) (L : List (Addr × List Int)), vs = [V.ref a] ∧ H a = some (SetTO P w a L) ∧ (∀ p ∈ L, RAt K H p) ∧ (∀ p ∈ L, p.2 ≠ []) ∧
  ∀ (qs : List (Addr × List Int)) (p : Addr), qs.Perm L → (qs.map (·.2)).Nodup → H p = none → Q (.ref p) (upd H p (.lst (qs.map fun z => V.ref z.1)))
theorem cr_sortS (hc : X.calm = true) (hu : X.A.units + 64 < cLine) : CallR X (.builtin "sorted") (rSortS X.K X.prog X.w) := by
  intro pins s σ H vs us Q I r h
  obtain ⟨a, L, rfl, ha, hk, hne, q⟩ := h
  have R0 : SetT0 X.prog X.w s.heap a L := (I.hok a _ ha).1
  obtain ⟨es, ep, t, R⟩ := R0.full fun p hp => I.isT (hk p hp)
  rw [Vals.ref1 r]
  obtain ⟨o, ho, hex, hd⟩ := R.ob
  have hsz := R.size
  have hfew := R.few
  refine Calls.call_function_entry kind_sorted plain_sorted entry_sorted (args_sorted1 _) ?_
  unfold Builtin.«sorted»
  refine wpAny_bind (m := checkCount "sorted" 1 1 _) (wpAny_pure ?_)
  refine wpAny_bind (collect_set (A := X.A.in1) (I.ok.hd hc) ⟨o, ho, hex.1, hd⟩ R.fits (by unfold scanBound; omega) R.tab.ris R.led fun s1 vs k1 hz g1 o1 pm => ?_)
  have hes : es.toList.map (·.2) = L.map fun q => Value.ref q.1 := by
    rw [R.rows]
    unfold rowsOf
    rw [List.map_map] <;> rfl
  rw [hes] at pm
  -- the values are the addresses of an arrangement of L
  have arr : ∀ {vs : List Value} {L : List (Addr × List Int)}, vs.Perm (L.map fun q => Value.ref q.1) → ∃ L1 : List (Addr × List Int), vs = L1.map (fun q => Value.ref q.1) ∧ L1.Perm L := by
    intro vs
    induction vs with
    | nil =>
      intro L pm
      have := pm.length_eq
      cases L with
      | nil => exact ⟨[], rfl, .refl _⟩
      | cons _ _ => simp at this
    | cons v vs ih =>
      intro L pm
      have hv : v ∈ L.map fun q => Value.ref q.1 := pm.mem_iff.mp List.mem_cons_self
      obtain ⟨z, hz, rfl⟩ := List.mem_map.mp hv
      obtain ⟨l1, l2, rfl⟩ := List.append_of_mem hz
      have p2 : (Value.ref z.1 :: vs).Perm (Value.ref z.1 :: ((l1 ++ l2).map fun q => Value.ref q.1)) := by
        refine pm.trans ?_
        rw [List.map_append, List.map_append, List.map_cons]
        exact List.perm_middle
      obtain ⟨L1, e, p3⟩ := ih (List.Perm.cons_inv p2)
      exact ⟨z :: L1, by rw [e, List.map_cons], (p3.cons z).trans List.perm_middle.symm⟩
  obtain ⟨L1, rfl, pL⟩ := arr pm
  have I1 : Inv X pins σ H s1 := by
    have e : s1 = { s with heap := s1.heap, gens := s1.gens, drawn := s1.drawn, toks := s1.toks } := by
      cases s1
      cases s
      cases o1
      rfl
    rw [e]
    exact I.call (ch := []) (Un.kept k1) (I.hok.kept k1) (by rw [g1]; exact I.bare) (fun _ z => nomatch z)
  refine sorted_end (A := X.A.in1) I1 (fun p hp => hk p (pL.mem_iff.mp hp)) (fun p hp => hne p (pL.mem_iff.mp hp)) (by rw [pL.length_eq, sizeLine_eq]; omega) (by show X.A.units + 1 + 2 < cLine; omega) fun qs p pm2 hp => ?_
  have pq := pm2.trans pL
  exact q qs p pq ((pq.map (·.2)).nodup_iff.mpr R.nd) hp
end
end L2.NW
end
section
/-! enumerate of a tuple, min of a tuple, not in over a tuple of rows, (x,) * k. -/
namespace L2.NW
open PySem PySem.Spec PyProof.Rows
/-! ### enumerate(t) -/
theorem meets_enumT (t : Addr) (items : Array Value) :
    Meets (Builtin.«enumerate.__new__» ⟨[.type "enumerate", .ref t], []⟩) (fun _ R s => s.heap.IsTuple t items ∧
      R (.ok (.ret (.ref (s.heap.push { cls := .type "tuple_iterator", data := .fields #[.ref t, .int 0 0] }).objs.size)))
        { s with heap := (s.heap.push { cls := .type "tuple_iterator", data := .fields #[.ref t, .int 0 0] }).push { cls := .type "enumerate", data := .fields #[.none, .bool false, .ref s.heap.objs.size, rawInt 0, .none, .none] } }) :=
  .of_wp fun prog w A R s h => by
    obtain ⟨hp, g, d, tk, os⟩ := s
    obtain ⟨hl, h⟩ := h
    have hsub := sub_enumerate
    have hL : Heap.IsTuple (Shared.heap ⟨hp, g, d, tk, os⟩) t items := hl
    wp_walk using wpAny_pyIter_tuple hL
    refine wpAny_stack_any fun st => wpAny_pure ?_
    split
    · rename_i c _ _ _ _ _
      cases (c == Value.type "enumerate")
      · wp_walk using wpAny_pyIter_tuple hL
        exact ⟨_, rfl, h⟩
      · wp_walk using wpAny_pyIter_tuple hL
        exact ⟨_, rfl, h⟩
    · wp_walk using wpAny_pyIter_tuple hL
      exact ⟨_, rfl, h⟩
theorem call_enumT {prog : Program} {w : World} {A : Around} {E : Value → Shared → Prop} {s : Shared} {t : Addr} {items : Array Value} {Q : Value → Shared → Prop} (ht : s.heap.IsTuple t items)
    (h : ∀ h', IsEnum h' (s.heap.objs.size + 1) s.heap.objs.size 0 .none → h'.IsTupleIter s.heap.objs.size t 0 → (∀ b o, s.heap.get? b = some o → h'.get? b = some o) → Q (.ref (s.heap.objs.size + 1)) { s with heap := h' }) :
    wpAny (model prog w) A (call (.type "enumerate") [.ref t]) Q E s := by
  refine callType_new F.called_enumerate (by decide) (F.typeCall_enumerate_1 _) (F.newCall_enumerate_1 _) (fun obj => F.args_object_init_2 obj _) F.entry_enumerate_new (meets_enumT t items) ⟨ht, ?_⟩
  have hz : (s.heap.push { cls := .type "tuple_iterator", data := .fields #[.ref t, .int 0 0] }).objs.size = s.heap.objs.size + 1 := Heap.size_push ..
  show _ ∧ _
  rw [hz]
  have he : IsEnum ((s.heap.push { cls := .type "tuple_iterator", data := .fields #[.ref t, .int 0 0] }).push { cls := .type "enumerate", data := .fields #[.none, .bool false, .ref s.heap.objs.size, rawInt 0, .none, .none] }) (s.heap.objs.size + 1) s.heap.objs.size 0 .none := by
    have := Heap.get?_push_size (s.heap.push { cls := .type "tuple_iterator", data := .fields #[.ref t, .int 0 0] }) (o := { cls := .type "enumerate", data := .fields #[.none, .bool false, .ref s.heap.objs.size, rawInt 0, .none, .none] }) rfl
    rw [hz] at this
    exact this
  exact ⟨⟨_, he, rfl⟩, h _ he ⟨_, Heap.get?_push_of_some _ (Heap.get?_push_size _ rfl), rfl, rfl⟩ fun b o x => Heap.get?_push_of_some _ (Heap.get?_push_of_some _ x)⟩
/-- the tuple at a, each item in a new pair with its number -/
def ItET (K : PySem.W.Frag) (a : Addr) : It :=
  ⟨fun i H => ∃ (xs : List V) (x : V), SqT K H a xs ∧ xs[i]? = some x, fun i H v H' => ∃ T x, v = .ref T ∧ H T = none ∧ H' = upd H T (.tup [.int (i : Nat), x]) ∧ ∀ xs, SqT K H a xs → xs[i]? = some x, fun i H => ∃ xs : List V, SqT K H a xs ∧ xs.length ≤ i⟩
theorem turn_enumT {P : Program} {w : World} {K : PySem.W.Frag} {elts : List Expr} {kk : Nat} {tpos : Pos} (a e it : Addr) :
    Turn P w K (.Tuple elts kk tpos) (ItET K a) [e, it] e (fun i h => (∃ old, IsEnum h e it ((i : Nat) : Int) old) ∧ h.IsTupleIter it a i ∧ e ≠ it ∧ a ≠ it ∧ e ≠ a) where
  mem := by simp
  obj := fun i h st b hb => by
    obtain ⟨⟨old, he⟩, ⟨o, ho, hc, hd⟩, _⟩ := st
    have e' : b = e ∨ b = it := by simpa using hb
    rcases e' with z | z
    · rw [z]; exact ⟨_, he, fun v q => nomatch q⟩
    · rw [z]; exact ⟨o, ho, fun v q => by rw [hd] at q; cases q⟩
  keep := fun i h h' st k => let ⟨⟨old, he⟩, hi, hne⟩ := st; ⟨⟨old, k e (by simp) _ he⟩, hi.at fun o q => k it (by simp) o q, hne⟩
  item := by
    intro X hP hw hK hc i pins s σ H E I hf st hg
    subst hP hw hK
    obtain ⟨⟨old, he⟩, hit, hne, hai, hea⟩ := st
    obtain ⟨xs, x, hq, hx⟩ := hg
    obtain ⟨its, rv, p, hz⟩ := I.tuple hq
    obtain ⟨u, hu, ru⟩ := rv.get hx
    have hel : e < s.heap.objs.size := Heap.lt_size he
    have hil : it < s.heap.objs.size := by obtain ⟨_, q, _⟩ := hit; exact Heap.lt_size q
    have hi : i < its.toArray.size := by
      have := (List.getElem?_eq_some_iff.mp hu).1
      simpa using this
    refine wpAny_pyNext_enum_itemC (Draws.tuple (A := X.A.in1) (I.ok.hd hc) it a hai its.toArray) he ⟨hit, p⟩ hi hne (by simp [hne, hea]) fun x' h' tk hP ho hst hT hsz hk => ?_
    have ex : x' = u := by
      have h1 : its[i]? = some x' := by simpa using hP
      rw [hu] at h1
      exact (Option.some.inj h1).symm
    subst ex
    refine ⟨_, rfl, wpAny_letOwnedTupleGo_enum (s := { s with heap := h', toks := tk + 1 }) ho fun h'' he' sb => ?_⟩
    have hT2 : h''.get? s.heap.objs.size = some { cls := .type "tuple", data := .seq #[.int i tk, x'] } := (sb.2 _ (Nat.ne_of_gt hel)).trans hT
    have new : ObjOk X.prog X.w (upd H s.heap.objs.size (.tup [.int (i : Nat), x])) h'' s.heap.objs.size (.tup [.int (i : Nat), x]) :=
      ⟨by show 2 ≤ sizeLine; decide, [.int i tk, x'], .cons ⟨_, rfl⟩ (.cons ru .nil), ⟨_, hT2, rfl, _, rfl⟩⟩
    have I1 : Inv X pins σ (upd H s.heap.objs.size (.tup [.int (i : Nat), x])) { s with heap := h'', toks := tk + 1 } :=
      I.turnedNew (ch := [e, it]) (fun b ob hb q => (sb.2 b (fun z => hb (by simp [z]))).trans (hk b ob (fun z => hb (by simp [z])) (fun z => hb (by simp [z])) q)) hf (Nat.le_refl _) new
    refine ⟨.ref s.heap.objs.size, _, I1, rfl, ⟨_, x, rfl, I.hok.fresh (Nat.le_refl _), rfl, fun ys hy => by rw [I.tuple_inj hy hq]; exact hx⟩, ⟨⟨x', ?_⟩, hst.1.at fun o q => (sb.2 it (Ne.symm hne)).trans q, hne, hai, hea⟩, fun b hb => ?_⟩
    · have e1 : ((i + 1 : Nat) : Int) = (i : Int) + 1 := by omega
      rw [e1]; exact he'
    · have hb' : b < s.heap.objs.size := by
        have e' : b = e ∨ b = it := by simpa using hb
        rcases e' with z | z
        · rw [z]; exact hel
        · rw [z]; exact hil
      rw [upd_ne (Nat.ne_of_lt hb')]
      exact (hf b hb).1
  done := by
    intro X hP hw hK hc i pins s σ H E I hf st hg
    subst hP hw hK
    obtain ⟨⟨old, he⟩, hit, hne, hai, hea⟩ := st
    obtain ⟨xs, hq, hx⟩ := hg
    obtain ⟨its, rv, p, hz⟩ := I.tuple hq
    obtain ⟨f0, f1, f2, f3, f4, f5⟩ := hf it (by simp)
    have hl := rv.length
    have D0 := Draws.tuple (prog := X.prog) (w := X.w) (A := X.A.in1) (I.ok.hd hc) it a hai its.toArray
    have hn : its.toArray[i]? = none := by simp; omega
    refine wpAny_pyNext_enum_endD (i := (i : Int)) (n := i) (P := fun _ _ => False) (St := fun j h => j = i ∧ h.IsTupleIter it a j ∧ h.IsTuple a its.toArray) (fp := [it, a]) ?_ he ⟨rfl, hit, p⟩ fun h' eb => ⟨rfl, I.turned (t' := s.toks) (fun b o hb q => eb b o hb q) f0 f1 f3 f4 f5⟩
    exact {
      live := fun _ _ st => let ⟨o, ho, _⟩ := st.2.1; ⟨o, ho⟩
      frame := fun _ _ _ st hk => ⟨st.1, st.2.1.at fun o e => hk it (by simp) o e, st.2.2.at fun o e => hk a (by simp) o e⟩
      item := fun j s' Q' E' hj st hQ => absurd hj (by rw [st.1]; exact Nat.lt_irrefl _)
      done := fun s' Q' E' st hE => wpAny_nextOf_tuple_end (I.ok.hd hc) st.2.1 st.2.2 hn hE }
  self := fun A i s Q E st h => let ⟨⟨_, he⟩, _⟩ := st; wpAny_pyIter_enum he h
def iEnumT (K : PySem.W.Frag) (ta : TA) : TI := fun σ H R => ta σ H fun vs H1 => ∃ a xs, vs = [.ref a] ∧ SqT K H1 a xs ∧ R (ItET K a) H1
theorem pi_enumT {X : Cx} {e : Expr} {ta : TA} {p pos tpos : Pos} {elts : List Expr} {kk : Nat} (hg : Gl X "enumerate") (hm : X.mg "enumerate" = none) (ha : PA X [e] ta) (hs : starEach [e] X.env = [(false, eval e X.env)] := by rfl) :
    PI X (.Tuple elts kk tpos) (.Call (.Name "enumerate" p) [e] [] pos) (iEnumT X.K ta) := by
  refine ⟨fun pins s σ H R I h => ?_⟩
  refine Call_ (ld_blt I hg hm boot_enumerate (PyProof.Rows.callWith_type1 (thn (ha.run pos pins s σ H _ I h) fun us s1 ⟨vs, H1, I1, r1, q1⟩ => ?_) hs rfl))
  obtain ⟨a, xs, ex, hq, q⟩ := q1
  subst ex
  cases r1 with
  | cons r rr =>
    cases rr
    cases r
    obtain ⟨its, rv, p', hz⟩ := I1.tuple hq
    have hlt : a < s1.heap.objs.size := by obtain ⟨o, ho, _⟩ := id p'; exact Heap.lt_size ho
    refine call_enumT (show s1.heap.IsTuple a its.toArray from p') fun h' he hit hk => wpAny_pyIter_enum he ?_
    have I2 : Inv X pins σ H1 { s1 with heap := h' } := I1.kept (t' := s1.toks) hk
    refine ⟨s1.heap.objs.size + 1, [s1.heap.objs.size + 1, s1.heap.objs.size], _, _, H1, rfl, I2, turn_enumT a (s1.heap.objs.size + 1) s1.heap.objs.size, ⟨⟨.none, he⟩, hit, Nat.succ_ne_self _, Nat.ne_of_lt hlt, Nat.ne_of_gt (Nat.lt_succ_of_lt hlt)⟩, fun b hb => ?_, q⟩
    have e' : b = s1.heap.objs.size + 1 ∨ b = s1.heap.objs.size := by simpa using hb
    have hle : s1.heap.objs.size ≤ b := by
      rcases e' with z | z
      · rw [z]; exact Nat.le_add_right _ _
      · rw [z]; exact Nat.le_refl _
    exact I1.fpOk hle (I1.hok.fresh hle)

section
variable {X : Cx}
/-! ### min(t) of a tuple of ints -/
def rMinT (K : PySem.W.Frag) : List V → Hp → VK → Prop := fun vs H Q => ∃ (a : Addr) (ns : List Int), vs = [V.ref a] ∧ SqT K H a (ns.map V.int) ∧ ns ≠ [] ∧ ∀ m, m ∈ ns → (∀ j ∈ ns, m ≤ j) → Q (.int m) H
theorem cr_minT (hc : X.calm = true) : CallR X (.builtin "min") (rMinT X.K) := by
  intro pins s σ H vs us Q I r h
  obtain ⟨a, ns, rfl, ha, hne, q⟩ := h
  rw [Vals.ref1 r]
  obtain ⟨its, rv, p, hz⟩ := I.tuple ha
  have hlt : a < s.heap.objs.size := by obtain ⟨o, ho, _⟩ := id p; exact Heap.lt_size ho
  have hl : its.length = ns.length := by have := rv.length; rw [List.length_map] at this; exact this.symm
  have hpos : 0 < ns.length := List.length_pos_iff.mpr hne
  have hval : ∀ (i : Nat) (v : Value), its.toArray[i]? = some v → ∃ t, v = Value.int (ns.getD i 0) t := fun i v hv => by
    have hv : its[i]? = some v := by simpa using hv
    have hi : i < its.length := (List.getElem?_eq_some_iff.mp hv).1
    have hx : (ns.map V.int)[i]? = some (V.int (ns.getD i 0)) := by
      rw [List.getElem?_map, List.getD_eq_getElem?_getD, List.getElem?_eq_getElem (by omega)]
      rfl
    obtain ⟨u, hu, ru⟩ := rv.get hx
    rw [hv] at hu
    cases hu
    exact ru
  refine call_min_walk (wpAny_pyIter_tuple (show s.heap.IsTuple a its.toArray from p) ?_)
  refine ⟨_, _, _, _, _, _, _, rfl, Walks.tuple (A := X.A.in1) (I.ok.hd hc) s.heap.objs.size a (Nat.ne_of_lt hlt) its.toArray,
    ⟨⟨_, Heap.get?_push_size _ rfl, rfl, rfl⟩, (show s.heap.IsTuple a its.toArray from p).at fun o e => Heap.get?_push_of_some _ e⟩, fun b hb => ?_, by rw [List.size_toArray]; omega, CmpOf.ints_lt (fun i => ns.getD i 0) hval, fun v h' tk hP hk => ?_⟩
  · show b < (s.heap.push _).objs.size
    rw [Heap.size_push]
    rcases List.mem_cons.mp hb with e | hb
    · rw [e]; exact Nat.lt_succ_self _
    · rw [List.mem_singleton.mp hb]; exact Nat.lt_succ_of_lt hlt
  · obtain ⟨t, rfl⟩ := hval _ v hP
    obtain ⟨b1, b2⟩ := argBest_lt (fun i => ns.getD i 0) (its.toArray.size - 1)
    have hsz : its.toArray.size = ns.length := by rw [List.size_toArray, hl]
    refine ⟨.int _, H, I.kept (t' := tk) fun b u e => hk b u (fun hmem => ?_) (Heap.get?_push_of_some _ e), ⟨t, rfl⟩, q _ ?_ fun j hj => ?_⟩
    · have e1 : b = s.heap.objs.size := List.mem_singleton.mp hmem
      have e2 := Heap.lt_size e
      rw [e1] at e2
      exact absurd e2 (Nat.lt_irrefl _)
    · have hb : argBest (fun i j => decide (ns.getD i 0 < ns.getD j 0)) (its.toArray.size - 1) < ns.length := by omega
      rw [List.getD_eq_getElem?_getD, List.getElem?_eq_getElem hb]
      exact List.getElem_mem hb
    · obtain ⟨i, hi, e⟩ := List.mem_iff_getElem.mp hj
      have e2 : ns.getD i 0 = j := by rw [List.getD_eq_getElem?_getD, List.getElem?_eq_getElem hi, ← e] <;> rfl
      rw [← e2]
      exact b2 i (by omega)
/-! ### a row not in a tuple of rows -/
def rNotInRows (K : PySem.W.Frag) : R2 := fun x y H Q => ∃ (r : List Int) (b : Addr) (zs : List V) (rs : List (List Int)), (∃ a, x = .ref a ∧ SqT K H a (r.map V.int)) ∧ y = .ref b ∧ SqT K H b zs ∧
  Paired (fun z (s : List Int) => ∃ a, z = V.ref a ∧ SqT K H a (s.map V.int)) zs rs ∧ Q (.bl (!decide (r ∈ rs))) H
theorem dp_row {K : PySem.W.Frag} {H : Hp} {a : Addr} {r : List Int} (h : SqT K H a (r.map V.int)) : Dp K H (.ref a) (.tuple (r.map .int)) := by
  refine .tup h ?_
  induction r with
  | nil => exact .nil
  | cons x r ih =>
    have z : ∀ l : List Int, DpAll K H (l.map V.int) (l.map .int) := by
      intro l
      induction l with
      | nil => exact .nil
      | cons y l ih => exact .cons (.int _) ih
    exact z _
theorem shaped_row (r : List Int) : SeqAt.shaped (.tuple (r.map .int)) = true := by
  have z : ∀ l : List Int, PyData.canLayAll0 (l.map .int) = true := by
    intro l
    induction l with
    | nil => rfl
    | cons y l ih => simpa [PyData.canLayAll0, PyData.canLay0] using ih
  have d := PySem.W.depth_ints r
  unfold SeqAt.shaped
  simp [PyData.canLay0, z, PyData.depth, d]
theorem eqv_rows : ∀ r s : List Int, PyData.eqv (.tuple (r.map .int)) (.tuple (s.map .int)) = decide (r = s) := by
  have z : ∀ r s : List Int, PyData.eqvAll (r.map .int) (s.map .int) = decide (r = s) := by
    intro r
    induction r with
    | nil => intro s; cases s <;> simp [PyData.eqvAll]
    | cons x r ih =>
      intro s
      cases s with
      | nil => simp [PyData.eqvAll]
      | cons y s =>
        simp only [List.map_cons, PyData.eqvAll, ih, List.cons.injEq]
        by_cases h : x = y
        · subst h; simp [PyData.eqv]
        · simp [PyData.eqv, h]
  intro r s
  exact z r s
end
end L2.NW
end
section
/-! Dict comprehensions of any number of clauses. -/
namespace L2.NW
open PySem PySem.Spec PyProof.Rows
/-- from slots and heap to a heap as it is wanted -/
abbrev TB := St → Hp → (Hp → Prop) → Prop
/-- what is done behind a clause's tests: the next clause's loop, or the entry -/
def restD (kx vx : Expr) (gens : List Comprehension) (scope : Scope) (pos : Pos) (l : Nat) (D : Addr) (env : Env) : Sem Unit :=
  match gens[l]? with
  | some g' => do
    let x ← eval g'.iter env
    standAt g'.iter.pos
    let x ← foldedSetIterable g'.iter env x
    let _ ← runOwn (.compStart (.DictComp kx vx gens scope pos) l (← holding [x] (pyIter x)) (.ref D) env) env
  | none => do
    let kv ← eval kx env
    let vv ← holding [kv] (eval vx env)
    standAt { kx.pos with endLine := vx.pos.endLine, endCol := vx.pos.endCol }
    holding [kv, vv] (dictSet D kv vv)
structure PEm (B : Cx) (kx vx : Expr) (gens : List Comprehension) (scope : Scope) (pos : Pos) (l : Nat) (tb : Addr → TB) : Prop where
  run : ∀ (D : Addr) (pins : List (Addr × Obj)) (s : Shared) (σ : St) (H : Hp) (Nx : Hp → Prop), Inv B pins σ H s → tb D σ H Nx →
    wpAny (model B.prog B.w) B.A (restD kx vx gens scope pos l D B.env) (fun _ s' => ∃ H', Inv B pins σ H' s' ∧ Nx H') (fun _ _ => False) s
def tLoopIn (J : It) (g : TG) (tt : TT) (tb : TB) (vs : List Nat) : TB := fun σ H Nx => wipe σ vs = σ ∧ ∃ W : Nat → Nat → Hp → Prop, (∃ m, W 0 m H) ∧ ∀ i m H, W i m H →
  (J.stop i H ∧ Nx H) ∨ (J.go i H ∧ ∃ Nx' : Hp → Prop, (∀ H', Nx' H' → ∃ m', m' < m ∧ W (i + 1) m' H') ∧ ∀ x H', J.yld i H x H' → g x σ H' fun σ2 H2 => wipe σ2 vs = σ ∧ tt σ2 H2 fun b H3 =>
    if b = true then tb σ2 H3 Nx' else Nx' H3)
def tLoop (wi : TI) (g : TG) (tt : TT) (tb : Addr → TB) (vs : List Nat) : Addr → TB := fun D σ H Nx => wi σ H fun J H1 => tLoopIn J g tt (tb D) vs σ H1 Nx

section
variable {prog : Program} {w : World} {A : Around} {R : Result → Shared → Prop} {s : Shared} {kx vx : Expr} {gens : List Comprehension} {tg iter : Expr} {ifs : List Expr} {scope : Scope} {pos : Pos} {l : Nat} {it : Value} {D : Addr} {env : Env}
/-- a clause's loop: a turn with what stands behind its tests -/
theorem clause_loop (hg : gens[l]? = some ⟨tg, iter, ifs, 0⟩) (ha : ∀ g ∈ gens, g.is_async = 0) (I : Nat → Shared → Prop)
    (turn : ∀ n s, I n s → wpAny (model prog w) A (pyNext it) (fun r s₁ => match r with
      | none => R (.ok .next) s₁
      | some v => wpAny (model prog w) A (letOwnedTupleGo tg it v) (fun _ s₁' => wpAny (model prog w) A (assign tg env v) (fun _ s₂ =>
          wpAny (model prog w) A (forIn ifs true fun c r => if r = true then do let ok ← isTrue c env (eval c env); pure (ForInStep.yield ok) else pure (ForInStep.yield r)) (fun ok s₃ =>
            if ok = true then wpAny (model prog w) A (restD kx vx gens scope pos (l + 1) D env) (fun _ s₅ => ∃ m, m < n ∧ I m s₅) (fun _ _ => False) s₃
            else ∃ m, m < n ∧ I m s₃) (fun _ _ => False) s₂) (fun _ _ => False) s₁') (fun _ _ => False) s₁) (fun _ _ => False) s)
    (n : Nat) (h : I n s) : codeAny (model prog w) A (.compLoop (.DictComp kx vx gens scope pos) l it (.ref D) env) R s := by
  refine codeAny_loop rfl I (fun n s hI => ?_) n h
  show wpAny _ A ((compTurn (.DictComp kx vx gens scope pos) l it (.ref D) env).onRaise (fun x => do noteFrame x env; theTreesLotGoes x)) _ _ s
  refine wpAny_noted ?_
  unfold compTurn
  simp only [hg]
  refine wpAny_bind (wpAny_standAt (wpAny_bind (thnF (turn n s hI) fun r s₁ h₁ => ?_)))
  cases r with
  | none => exact wpAny_pure h₁
  | some v =>
    refine wpAny_bind (thnF h₁ fun _ s₁' h₁' => ?_)
    refine wpAny_bind (thnF h₁' fun _ s₂ h₂ => wpAny_bind (thnF h₂ fun ok s₃ h₃ => ?_))
    cases ok with
    | false => exact wpAny_pure ⟨rfl, h₃⟩
    | true =>
      simp only [if_true] at h₃ ⊢
      unfold restD at h₃
      cases hq : gens[l + 1]? with
      | none =>
        simp only [hq] at h₃ ⊢
        exact wpAny_bind (thnF h₃ fun _ s₄ h₄ => wpAny_pure ⟨rfl, h₄⟩)
      | some g' =>
        have h0 := ha g' (List.mem_of_getElem? hq)
        obtain ⟨t1, i1, f1, a1⟩ := g'
        subst h0
        have z : ((0 : Nat) != 0) = false := rfl
        simp only [hq, z, Bool.false_eq_true, if_false] at h₃ ⊢
        have e : ∀ (k : Sem Unit), wpAny (model prog w) A k (fun _ s₅ => ∃ m, m < n ∧ I m s₅) (fun _ _ => False) s₃ →
            wpAny (model prog w) A (k >>= fun _ => again (.compLoop (.DictComp kx vx gens scope pos) l it (.ref D) env)) (fun fin s' => match fin with | .done f => R (.ok f) s' | .again c' => c' = (.compLoop (.DictComp kx vx gens scope pos) l it (.ref D) env) ∧ ∃ m, m < n ∧ I m s') (notedBy (model prog w) A env fun e s' => R (.error e) s') s₃ :=
          fun k hk => wpAny_bind (thnF hk fun _ s₄ h₄ => wpAny_pure ⟨rfl, h₄⟩)
        have q := e _ h₃
        simp only [bind_assoc, pure_bind] at q ⊢
        exact q
theorem clause_start (hg : gens[l]? = some ⟨tg, iter, ifs, 0⟩) (h0 : codeAny (model prog w) A (.compLoop (.DictComp kx vx gens scope pos) l it (.ref D) env) R s)
    (h : wpAny (model prog w) A (pyIter it) (fun it' s' => codeAny (model prog w) A (.compLoop (.DictComp kx vx gens scope pos) l it' (.ref D) env) R s') (fun _ _ => False) s) :
    codeAny (model prog w) A (.compStart (.DictComp kx vx gens scope pos) l it (.ref D) env) R s := by
  refine codeAny_of_tree ?_
  show wpAny _ A ((compStart (.DictComp kx vx gens scope pos) l it (.ref D) env).onRaise (fun x => do noteFrame x env; standAt theWindowsPlace)) _ _ s
  refine wpAny_notedAt ?_
  have e : (clausesOf (.DictComp kx vx gens scope pos))[l]? = some ⟨tg, iter, ifs, 0⟩ := hg
  unfold compStart
  simp only [e]
  show wpAny _ A (ask >>= _) _ _ s
  refine wpAny_bind (wpAny_askSetting (wpAny_ite ?_))
  split
  · exact wpAny_bind (wpAny_pure (wpAny_pure (And.intro rfl h0)))
  · exact wpAny_bind (wpAny_rule (wpAny_bind (wpAny_standAt (wpAny_bind (thnF h fun it' s' h' => wpAny_pure (And.intro rfl h'))))))
end

section
variable {kx vx : Expr} {gens : List Comprehension} {tg iter : Expr} {ifs : List Expr} {scope : Scope} {pos : Pos} {l : Nat} {g : TG} {tt : TT} {tb : Addr → TB} {vs : List Nat}
theorem stat_of {B : Cx} {pins : List (Addr × Obj)} {H H' : Hp} {fp : List Addr} (f : ∀ b ∈ fp, FpOk B pins H b) (hn : ∀ b ∈ fp, H' b = none) : ∀ b ∈ fp, FpOk B pins H' b := fun b hb => ⟨hn b hb, (f b hb).2⟩
/-- a clause's loop over an iterator that stands -/
theorem loop_run {B : Cx} {pins : List (Addr × Obj)} {s : Shared} {σ : St} {H : Hp} {Nx : Hp → Prop} {it D : Addr} {fp : List Addr} {tn : Nat → Heap → Prop} {J : It} (hc : B.calm = true) (hx : B.xe = fun _ _ => False)
    (hg : gens[l]? = some ⟨tg, iter, ifs, 0⟩) (ha : ∀ g ∈ gens, g.is_async = 0) (pg : PG B tg g) (pt : PTs B ifs tt) (pm : PEm B kx vx gens scope pos (l + 1) tb)
    (I : Inv B pins σ H s) (T : Turn B.prog B.w B.K tg J fp it tn) (st : tn 0 s.heap) (f : ∀ b ∈ fp, FpOk B pins H b) (h : tLoopIn J g tt (tb D) vs σ H Nx) :
    codeAny (model B.prog B.w) B.A (.compStart (.DictComp kx vx gens scope pos) l (.ref it) (.ref D) B.env) (fun r s' => match r with
      | .ok _ => ∃ H', Inv B pins σ H' s' ∧ Nx H'
      | .error _ => False) s := by
  obtain ⟨hw, W, ⟨m0, w0⟩, turn⟩ := h
  have loop : codeAny (model B.prog B.w) B.A (.compLoop (.DictComp kx vx gens scope pos) l (.ref it) (.ref D) B.env) (fun r s' => match r with
      | .ok _ => ∃ H', Inv B pins σ H' s' ∧ Nx H'
      | .error _ => False) s := by
    refine clause_loop hg ha (fun n s' => ∃ i H', Inv B pins σ H' s' ∧ tn i s'.heap ∧ (∀ b ∈ fp, H' b = none) ∧ W i n H') ?_ m0 ⟨0, H, I, st, fun b hb => (f b hb).1, w0⟩
    rintro n s5 ⟨i, H5, I5, st5, n5, w5⟩
    rcases turn i n H5 w5 with ⟨stop, nx⟩ | ⟨go, N, hN, step⟩
    · refine thnF (T.done B rfl rfl rfl hc i pins s5 σ H5 (fun _ _ => False) I5 (stat_of f n5) st5 stop) fun r s6 ⟨hr, I6⟩ => ?_
      subst hr
      exact ⟨H5, I6, nx⟩
    · refine thnF (T.item B rfl rfl rfl hc i pins s5 σ H5 (fun _ _ => False) I5 (stat_of f n5) st5 go) fun r s6 ⟨u, hr, h6⟩ => ?_
      subst hr
      refine thnF h6 fun _ s7 ⟨x, H7, I7, r7, y7, st7, n7⟩ => ?_
      have I7' := I7.pinned (stat_of f n7) (T.obj _ _ st7)
      have pgr := pg.run _ s7 _ H7 x u _ I7' r7 (step x H7 y7)
      rw [hx] at pgr
      refine thnF pgr fun _ s8 ⟨σ8, H8, I8, hw8, q8⟩ => ?_
      have ptr := pt.run _ s8 σ8 H8 _ I8 q8
      rw [hx] at ptr
      refine thnF ptr fun b s9 ⟨H9, I9, q9⟩ => ?_
      have fin : ∀ {s' : Shared} {H' : Hp}, Inv B (pins ++ pinsAt fp s7.heap) σ8 H' s' → N H' → ∃ m, m < n ∧ ∃ i H', Inv B pins σ H' s' ∧ tn i s'.heap ∧ (∀ b ∈ fp, H' b = none) ∧ W i m H' := fun {s' H'} I' nx => by
        obtain ⟨m', hm, w'⟩ := hN H' nx
        have pin' : ∀ b ∈ fp, ∀ o, s7.heap.get? b = some o → s'.heap.get? b = some o ∧ H' b = none := fun b hb o e =>
          let z := I'.pin (b, o) (List.mem_append_right _ (List.mem_append_right _ (mem_pinsAt hb e)))
          ⟨z.1, z.2.1⟩
        refine ⟨m', hm, i + 1, H', I'.unpinned.weak (by rw [← hw8, wipe_length]) (fun j v e => ?_), T.keep _ _ _ st7 fun b hb o e => (pin' b hb o e).1, fun b hb => ?_, w'⟩
        · rw [← hw8] at e
          exact (wipe_some e).1
        · obtain ⟨o, e, _⟩ := T.obj _ _ st7 b hb
          exact (pin' b hb o e).2
      cases b with
      | false =>
        simp only [Bool.false_eq_true, if_false] at q9 ⊢
        exact fin I9 q9
      | true =>
        simp only [if_true] at q9 ⊢
        exact thnF (pm.run D _ s9 σ8 H9 _ I9 q9) fun _ s10 ⟨H10, I10, q10⟩ => fin I10 q10
  exact clause_start hg loop (T.self B.A 0 s _ _ st loop)
/-- an inner clause -/
theorem em_loop {B : Cx} {wi : TI} (hc : B.calm = true) (hx : B.xe = fun _ _ => False) (hg : gens[l]? = some ⟨tg, iter, ifs, 0⟩) (ha : ∀ g ∈ gens, g.is_async = 0) (pi : PI B tg iter wi) (pg : PG B tg g) (pt : PTs B ifs tt)
    (pm : PEm B kx vx gens scope pos (l + 1) tb) (hs : ∀ x, foldedSetIterable iter B.env x = pure x := by intro _; rfl) : PEm B kx vx gens scope pos l (tLoop wi g tt tb vs) := by
  refine ⟨fun D pins s σ H Nx I h => ?_⟩
  unfold restD
  simp only [hg]
  have pir := pi.run pins s σ H _ I h
  rw [hx] at pir
  refine wpAny_bind (thnF pir fun x s1 h1 => ?_)
  refine wpAny_bind (wpAny_standAt (wpAny_bind (wpAny_of_eq (hs x) (wpAny_bind (wpAny_holding (thnF h1 fun itv s2 h2 => ?_))))))
  obtain ⟨it, fp, tn, J, H2, e, I2, T, st2, f2, q⟩ := h2
  subst e
  refine wpAny_bind (wpAny_runOwn ?_)
  rw [Around.mark_none]
  refine codeAny_mono (loop_run hc hx hg ha pg pt pm I2 T st2 f2 q) fun r s' hr => ?_
  cases r with
  | ok fl => exact wpAny_pure hr
  | error e => exact hr.elim
/-- the entry, a key that is an int or a text -/
def tKey (tk tv : TE) : Addr → TB := fun D σ H Nx => tk σ H fun y H1 => tv σ H1 fun z H2 => ∃ kvs k, y = kV k ∧ H2 D = some (.dK kvs) ∧ kvs.length < sizeLine ∧ Nx (upd H2 D (.dK (putK kvs k z)))
/-- the entry, a key that is a tuple -/
def tNKey (P : Program) (w : World) (tk tv : TE) : Addr → TB := fun D σ H Nx => tk σ H fun y H1 => tv σ H1 fun z H2 => ∃ b k kvs, y = .ref b ∧ H2 b = some (.tup (k.map oV)) ∧ NDict P w H2 D kvs ∧ kvs.length < sizeLine ∧ ∀ H3, NPut P w H2 D (putK kvs k z) H3 → Nx H3
theorem em_key {B : Cx} {tk tv : TE} (hx : B.xe = fun _ _ => False) (hg : gens[l]? = none) (hk : PE B kx tk) (hv : PE B vx tv) : PEm B kx vx gens scope pos l (tKey tk tv) := by
  refine ⟨fun D pins s σ H Nx I h => ?_⟩
  unfold restD
  simp only [hg]
  have kr := hk.run pins s σ H _ I h
  rw [hx] at kr
  refine wpAny_bind (thnF kr fun u s1 ⟨y, H1, I1, r1, q1⟩ => ?_)
  have vr := hv.run pins s1 σ H1 _ I1 q1
  rw [hx] at vr
  refine wpAny_bind (wpAny_holding (thnF vr fun u2 s2 ⟨z, H2, I2, r2, kvs, k, ek, hD, hz, nx⟩ => ?_))
  subst ek
  exact wpAny_bind (wpAny_standAt (wpAny_holding (d_dictSet I2 hD hz r1 r2 fun s3 I3 => ⟨_, I3, nx⟩)))
theorem em_nkey {B : Cx} {tk tv : TE} (hx : B.xe = fun _ _ => False) (hu : B.A.units < cLine) (hg : gens[l]? = none) (hk : PE B kx tk) (hv : PE B vx tv) : PEm B kx vx gens scope pos l (tNKey B.prog B.w tk tv) := by
  refine ⟨fun D pins s σ H Nx I h => ?_⟩
  unfold restD
  simp only [hg]
  have kr := hk.run pins s σ H _ I h
  rw [hx] at kr
  refine wpAny_bind (thnF kr fun u s1 ⟨y, H1, I1, r1, q1⟩ => ?_)
  have vr := hv.run pins s1 σ H1 _ I1 q1
  rw [hx] at vr
  refine wpAny_bind (wpAny_holding (thnF vr fun u2 s2 ⟨z, H2, I2, r2, b, k, kvs, ek, hb, hD, hz, nx⟩ => ?_))
  subst ek
  cases r1
  exact wpAny_bind (wpAny_standAt (wpAny_holding (n_dictSet hu I2 hD hb hz r2 fun H3 s3 n3 I3 => ⟨H3, I3, nx H3 n3⟩)))
end
section
variable {X : Cx}
/-- {k: v for .. for ..}: o0 is what the new dict is told as -/
def tDcs (o0 : Addr → HO) (wi : TI) (g : TG) (tt : TT) (tb : Addr → TB) (vs own : List Nat) : TE := fun σ H Q => wi σ H fun J H1 => ∀ D, H1 D = none → (D == sysModules) = false → tLoopIn J g tt (tb D) vs (wipe σ own) (upd H1 D (o0 D)) fun H' => Q (.ref D) H'
theorem dc_core {pins : List (Addr × Obj)} {s : Shared} {σ : St} {H : Hp} {Q : VK} {use : Option (Value → Sem Unit)} {Qf : Value → Shared → Prop} {pos' : Pos} {kx vx tg iter : Expr} {ifs : List Expr} {rest : List Comprehension} {scope : Scope} {own : List (Str × Nat)} {vs : List Nat} {pos : Pos} {wi : TI} {g : TG} {tt : TT} {tb : Addr → TB} (o0 : Addr → HO) (hc : X.calm = true) (hN : X.N.Nodup)
    (ho : ∀ (H : Hp) (h : Heap), sysModules < h.objs.size → ObjOk X.prog X.w H (h.push { cls := .type "dict", data := .dict #[] }) h.objs.size (o0 h.objs.size))
    (ha : ∀ g ∈ (⟨tg, iter, ifs, 0⟩ :: rest : List Comprehension), g.is_async = 0) (hi : PI X tg iter wi) (ok : BlkOk X.N X.env.scope scope own)
    (hg : ∀ (s : Shared) (H : Hp) (C : Addr) (cl : List (Str × Addr)) (fp : List Addr), PG (X.blk s H scope (compEnvC scope cl C X.env) fp) tg g) (ht : ∀ (s : Shared) (H : Hp) (C : Addr) (cl : List (Str × Addr)) (fp : List Addr), PTs (X.blk s H scope (compEnvC scope cl C X.env) fp) ifs tt)
    (hm : ∀ (s : Shared) (H : Hp) (C : Addr) (cl : List (Str × Addr)) (fp : List Addr), PEm (X.blk s H scope (compEnvC scope cl C X.env) fp) kx vx (⟨tg, iter, ifs, 0⟩ :: rest) scope pos 1 tb)
    (hs : ∀ x, foldedSetIterable iter X.env x = pure x) (I : Inv X pins σ H s) (h : tDcs o0 wi g tt tb vs (own.map (·.2)) σ H Q)
    (hRR : ∀ D C s' m H' fl, Inv X pins σ H' s' → Q (.ref D) H' → s'.heap.Ns C m → FpOk X pins H' C → compPost (model X.prog X.w) X.A X.xe use Qf (.ref D) C (.ok fl) s') :
    wpAny (model X.prog X.w) X.A (comprehension (.DictComp kx vx (⟨tg, iter, ifs, 0⟩ :: rest) scope pos) scope X.env pos' newDict false (eval iter X.env) use) Qf X.xe s := by
  have hfree : ∀ y ∈ scope.names, y.2 = .free → ∃ c, X.env.cells.lookup y.1 = some c := fun y hy e => by
    rcases ok.free y hy e with k | k
    · exact I.ok.has _ (.inl k)
    · exact I.ok.has _ (.inr k)
  refine wpAny_comprehension_free (use := use) rfl hs (closure_ok hfree) ok.kind (fun y hy e => by rw [ok.uniq y hy, e])
    (thn (hi.run pins s σ H _ I h) fun xv s1 hx => thn hx fun itv s2 h2 => ?_)
  obtain ⟨it, fp, tn, J, H2, e, I2, T, st2, f2, q⟩ := h2
  subst e
  refine wpAny_newObj_type (newEnv_comp ?_)
  generalize hD : s2.heap.objs.size = D
  have hDn : H2 D = none := I2.hok.fresh (Nat.le_of_eq hD)
  have q := q D hDn (beq_eq_false_iff_ne.mpr (by rw [← hD]; exact Nat.ne_of_gt I2.big))
  generalize hs3 : ({ s2 with heap := s2.heap.push { cls := .type "dict", data := .dict #[] } } : Shared) = s3
  have I3 : Inv X pins σ (upd H2 D (o0 D)) s3 := by
    rw [← hs3]
    refine I2.laid (t' := s2.toks) (fun b o e => Heap.get?_push_of_some _ e) (Nat.le_of_eq hD) ?_
    rw [← hD]
    exact ho _ _ I2.big
  have h3 : s3.heap = s2.heap.push { cls := .type "dict", data := .dict #[] } := by rw [← hs3]
  have sz : ∀ b ∈ fp, b < s2.heap.objs.size := fun b hb => by
    obtain ⟨o, e, _⟩ := T.obj _ _ st2 b hb
    exact Heap.lt_size e
  have f3 : ∀ b ∈ fp, FpOk X pins (upd H2 D (o0 D)) b ∧ b < s3.heap.objs.size := fun b hb => by
    have hlt := sz b hb
    refine ⟨⟨?_, (f2 b hb).2⟩, by rw [h3, Heap.size_push]; exact Nat.lt_succ_of_lt hlt⟩
    rw [upd_ne (by rw [← hD]; exact Nat.ne_of_lt hlt)]
    exact (f2 b hb).1
  have st3 : tn 0 s3.heap := T.keep _ _ _ st2 fun b _ o e => by rw [h3]; exact Heap.get?_push_of_some _ e
  have I4 := block_start I3 ok hN f3
  have pg := hg s3 (upd H2 D (o0 D)) s3.heap.objs.size (cellsFrom (s3.heap.objs.size + 1) scope.names (cloFrom X.env.cells scope.names [])) fp
  have pt := ht s3 (upd H2 D (o0 D)) s3.heap.objs.size (cellsFrom (s3.heap.objs.size + 1) scope.names (cloFrom X.env.cells scope.names [])) fp
  have pm := hm s3 (upd H2 D (o0 D)) s3.heap.objs.size (cellsFrom (s3.heap.objs.size + 1) scope.names (cloFrom X.env.cells scope.names [])) fp
  have nfp : ∀ b ∈ fp, (upd H2 D (o0 D)) b = none := fun b hb => (f3 b hb).1.1
  show codeAny _ _ (.compStart _ 0 (.ref it) (.ref D) (compEnvC scope (cellsFrom (s3.heap.objs.size + 1) scope.names (cloFrom X.env.cells scope.names [])) s3.heap.objs.size X.env)) (compPost (model X.prog X.w) X.A X.xe use _ (.ref D) s3.heap.objs.size) { s3 with heap := pushCells (s3.heap.push { cls := .type "dict", data := .dict #[] }) scope.names }
  generalize hce : compEnvC scope (cellsFrom (s3.heap.objs.size + 1) scope.names (cloFrom X.env.cells scope.names [])) s3.heap.objs.size X.env = ce at I4 pg pt pm ⊢
  have cL : ce.locals = s3.heap.objs.size := by subst hce; rfl
  generalize hH3 : upd H2 D (o0 D) = H3 at I3 I4 pg pt pm q nfp f3
  generalize hs4 : ({ s3 with heap := pushCells (s3.heap.push { cls := .type "dict", data := .dict #[] }) scope.names } : Shared) = s4 at I4 ⊢
  have st4 : tn 0 s4.heap := T.keep _ _ _ st3 fun b _ o e => by rw [← hs4]; exact pushCells_keeps _ _ _ _ (Heap.get?_push_of_some _ e)
  have f4 : ∀ b ∈ fp, FpOk (X.blk s3 H3 scope ce fp) [] H3 b := fun b hb =>
    ⟨nfp b hb, (I4.ok.exf b hb).1, I4.ok.exfs b hb, .inl hb, fun x c e => (I4.ok.exf b hb).2 x c e, fun p hp => absurd (show p ∈ ([] : List (Addr × Obj)) ++ [] from hp) (by simp)⟩
  refine codeAny_mono (loop_run (B := X.blk s3 H3 scope ce fp) (l := 0) hc rfl rfl ha pg pt pm I4 T st4 f4 q) fun r s6 hr => ?_
  cases r with
  | error e => exact hr.elim
  | ok fl =>
    obtain ⟨H5, I6, qq⟩ := hr
    have I7 : Inv X pins σ H5 s6 := I3.call' (ch := fp) I6.os I6.base I6.hok I6.bare fun b hb => ⟨(f3 b hb).1.2.2.2.1, (f3 b hb).1.2.1, (f3 b hb).1.2.2.2.2.1, (f3 b hb).1.2.2.2.2.2⟩
    have nC : H5 s3.heap.objs.size = none := by
      have z : H5 ce.locals = none := I6.free
      rw [cL] at z
      exact z
    obtain ⟨m, hn, _⟩ := I6.loc
    have hn : s6.heap.Ns ce.locals m := hn
    rw [cL] at hn
    exact hRR D _ s6 m H5 fl I7 qq hn (I3.fpOk (H' := H5) (Nat.le_refl _) nC)
theorem pe_dcs {kx vx tg iter : Expr} {ifs : List Expr} {rest : List Comprehension} {scope : Scope} {own : List (Str × Nat)} {vs : List Nat} {pos : Pos} {wi : TI} {g : TG} {tt : TT} {tb : Addr → TB} (o0 : Addr → HO) (hc : X.calm = true) (hN : X.N.Nodup)
    (ho : ∀ (H : Hp) (h : Heap), sysModules < h.objs.size → ObjOk X.prog X.w H (h.push { cls := .type "dict", data := .dict #[] }) h.objs.size (o0 h.objs.size))
    (ha : ∀ g ∈ (⟨tg, iter, ifs, 0⟩ :: rest : List Comprehension), g.is_async = 0) (hi : PI X tg iter wi) (ok : BlkOk X.N X.env.scope scope own)
    (hg : ∀ (s : Shared) (H : Hp) (C : Addr) (cl : List (Str × Addr)) (fp : List Addr), PG (X.blk s H scope (compEnvC scope cl C X.env) fp) tg g) (ht : ∀ (s : Shared) (H : Hp) (C : Addr) (cl : List (Str × Addr)) (fp : List Addr), PTs (X.blk s H scope (compEnvC scope cl C X.env) fp) ifs tt)
    (hm : ∀ (s : Shared) (H : Hp) (C : Addr) (cl : List (Str × Addr)) (fp : List Addr), PEm (X.blk s H scope (compEnvC scope cl C X.env) fp) kx vx (⟨tg, iter, ifs, 0⟩ :: rest) scope pos 1 tb)
    (hs : ∀ x, foldedSetIterable iter X.env x = pure x := by intro _; rfl) :
    PE X (.DictComp kx vx (⟨tg, iter, ifs, 0⟩ :: rest) scope pos) (tDcs o0 wi g tt tb vs (own.map (·.2))) := by
  refine ⟨fun pins s σ H Q I h => ?_⟩
  rw [arm_eval_DictComp]
  refine dc_core o0 hc hN ho ha hi ok hg ht hm hs I h fun D C s' m H' fl I' q hn f => ⟨m, hn, fun h'' sb => ?_⟩
  obtain ⟨f0, f1, f2, f3, f4, f5⟩ := f
  exact ⟨.ref D, H', I'.turned (t' := s'.toks) (fun b o hb e => (sb.2 b hb).trans e) f0 f1 f3 f4 f5, rfl, q⟩
theorem ps_setDc {i : Nat} {y : Str} {py spos : Pos} {kx vx tg iter : Expr} {ifs : List Expr} {rest : List Comprehension} {scope : Scope} {own : List (Str × Nat)} {vs : List Nat} {pos : Pos} {wi : TI} {g : TG} {tt : TT} {tb : Addr → TB} (o0 : Addr → HO) (hc : X.calm = true) (hN : X.N.Nodup) (hy : X.N[i]? = some y) (hyl : X.env.scope.names.lookup y = some .local)
    (hsw : swapsWith (.DictComp kx vx (⟨tg, iter, ifs, 0⟩ :: rest) scope pos) (some (.Name y py)) spos.line X.env = pure true)
    (ho : ∀ (H : Hp) (h : Heap), sysModules < h.objs.size → ObjOk X.prog X.w H (h.push { cls := .type "dict", data := .dict #[] }) h.objs.size (o0 h.objs.size))
    (ha : ∀ g ∈ (⟨tg, iter, ifs, 0⟩ :: rest : List Comprehension), g.is_async = 0) (hi : PI X tg iter wi) (ok : BlkOk X.N X.env.scope scope own)
    (hg : ∀ (s : Shared) (H : Hp) (C : Addr) (cl : List (Str × Addr)) (fp : List Addr), PG (X.blk s H scope (compEnvC scope cl C X.env) fp) tg g) (ht : ∀ (s : Shared) (H : Hp) (C : Addr) (cl : List (Str × Addr)) (fp : List Addr), PTs (X.blk s H scope (compEnvC scope cl C X.env) fp) ifs tt)
    (hm : ∀ (s : Shared) (H : Hp) (C : Addr) (cl : List (Str × Addr)) (fp : List Addr), PEm (X.blk s H scope (compEnvC scope cl C X.env) fp) kx vx (⟨tg, iter, ifs, 0⟩ :: rest) scope pos 1 tb)
    (hs : ∀ x, foldedSetIterable iter X.env x = pure x := by intro _; rfl) :
    PS X (.Assign [.Name y py] (.DictComp kx vx (⟨tg, iter, ifs, 0⟩ :: rest) scope pos) spos) (tAsg (tDcs o0 wi g tt tb vs (own.map (·.2))) (gName i)) := by
  refine ⟨fun pins s σ H D I h => ?_⟩
  rw [exec_Assign_Name_used _ _ _ _ hsw]
  refine wpAny_bind (wpAny_standAt (wpAny_bind ?_))
  show wpAny _ X.A (do let _ ← comprehension (.DictComp kx vx (⟨tg, iter, ifs, 0⟩ :: rest) scope pos) scope X.env (firstIterPos (⟨tg, iter, ifs, 0⟩ :: rest) pos) newDict false (eval iter X.env) (some (assign (.Name y py) X.env))) _ _ s
  have h : tDcs o0 wi g tt tb vs (own.map (·.2)) σ H (fun x H1 => gName i x σ H1 D.nx) := h
  refine wpAny_bind (thn (dc_core (Qf := fun _ s' => SP X pins D .next s') o0 hc hN ho ha hi ok hg ht hm hs I h fun L C s' m H' fl I' q hn f => ?_) fun _ s' hq => wpAny_pure (wpAny_pure hq))
  show wpAny _ _ (assign (.Name y py) X.env (.ref L)) _ _ _
  obtain ⟨f0, f1, f2, f3, f4, f5⟩ := f
  refine wpAny_assign_Name (store_ok2 (v := V.ref L) I' hN hy (.inl hyl) rfl (fun s2 I2 ⟨a, sb, ha'⟩ => ?_) (.inr hyl))
  have haC : C ≠ a := ha'.elim (fun z => by rw [z]; exact f1) fun z e => f4 y a z e.symm
  exact ⟨m, hn.sameBut sb haC, fun h3 sb3 => ⟨_, H', I2.turned (t' := s2.toks) (fun b o hb e => (sb3.2 b hb).trans e) f0 f1 f3 f4 f5, q⟩⟩
theorem swD_true {kx vx : Expr} {gs : List Comprehension} {scope : Scope} {pos py : Pos} {y : Str} {l : Nat} {env : Env} (hk : env.scope.kind = .function) (hy : env.scope.names.lookup y = some .local) (hl : (py.line == pos.line) = true)
    (ha : (scope.names.any fun (n, k) => n == y && (k == .local || k == .cell)) = false) : swapsWith (.DictComp kx vx gs scope pos) (some (.Name y py)) l env = pure true := by
  have ky : env.kindOf y = some .local := hy
  have hb : env.blockKind = .function := by unfold Env.blockKind; rw [hk]; rfl
  unfold swapsWith
  simp only [hb, ky, ha, Expr.pos, hl]
  rfl
theorem ho_K {H : Hp} {h : Heap} (hb : sysModules < h.objs.size) : ObjOk X.prog X.w H (h.push { cls := .type "dict", data := .dict #[] }) h.objs.size (.dK []) := dk_empty h hb
theorem ho_N {H : Hp} {h : Heap} (hb : sysModules < h.objs.size) : ObjOk X.prog X.w H (h.push { cls := .type "dict", data := .dict #[] }) h.objs.size (rawD h.objs.size #[] 0) := rawD_ok ⟨_, Heap.get?_push_size _ rfl, ⟨rfl, rfl, rfl⟩, rfl⟩
end
end L2.NW
end
section
/-! dict(zip(t, u)) of two tuples of ints. -/
namespace L2.NW
open PySem PySem.Spec PyProof.Rows
open RZ
section
variable {prog : Program} {w : World} {A : Around} {E : Value → Shared → Prop} {s : Shared}
/-- the pair given out before is still held: a new one comes -/
theorem held_item {z TI TO T i1 i2 l1 l2 : Addr} {f : Bool} {oT : Obj} {k1 k2 : Nat} {xs ys : Array Value} {x y : Value} {Q : Option Value → Shared → Prop} (D : ZipApart z TI TO i1 i2 l1 l2)
    (hz : IsZipHeld s.heap z TI TO T f) (hT : s.heap.get? T = some oT) (hTI : IsPair s.heap TI (.ref i1) (.ref i2))
    (h1 : s.heap.IsTupleIter i1 l1 k1) (h2 : s.heap.IsTupleIter i2 l2 k2) (hl1 : s.heap.IsTuple l1 xs) (hl2 : s.heap.IsTuple l2 ys) (hx : xs[k1]? = some x) (hy : ys[k2]? = some y)
    (hQ : ∀ h', IsZipHeld h' z TI TO T true → h'.IsTupleIter i1 l1 (k1 + 1) → h'.IsTupleIter i2 l2 (k2 + 1) → IsPair h' s.heap.objs.size x y →
      (∀ c o, c ≠ z → c ≠ i1 → c ≠ i2 → s.heap.get? c = some o → h'.get? c = some o) → Q (some (.ref s.heap.objs.size)) { s with heap := h' }) :
    wpAny (model prog w) A (pyNext (.ref z)) Q E s := by
  have hTy : s.TypeIs (.ref z) "zip" := ⟨_, hz, rfl⟩
  unfold pyNext
  refine wpAny_bind (wpAny_attempt (wpAny_callSpecial?_slot (name := Str.ofString "__next__") hTy F.slot_zip_next (wpAny_call_entry F.slot_zip_next hTy F.entry_zip_next ?_ (F.args_zip_next_1 _))))
  show wpAny _ _ (field (.ref z) 2 >>= _) _ _ _
  refine wpAny_bind (wpAny_field hz rfl (x := .bool false) rfl ?_)
  show wpAny _ _ (field (.ref z) 3 >>= _) _ _ _
  refine wpAny_bind (wpAny_field hz rfl (x := .ref TI) rfl (wpAny_bind (wpAny_seqItems hTI rfl ?_)))
  show wpAny _ _ (Builtin.SmallTypes.ownedTupleIsFree (.ref z) >>= _) _ _ _
  refine wpAny_bind (wpAny_tupleHeld_zip hz hT fun h₁ hz₁ b1 => ?_)
  simp only [Bool.false_eq_true, if_false]
  refine wpAny_bind ?_
  rw [← Array.forIn_toList]
  simp only [List.forIn_cons, List.forIn_nil]
  refine wpAny_bind (wpAny_bind (wpAny_holding ?_))
  show wpAny _ _ (Builtin.SmallTypes.nextOf (.ref i1) >>= _) _ _ _
  have g1 := h1.extBut b1.extBut D.i1z
  have g2 := h2.extBut b1.extBut D.i2z
  have t1 := hl1.extBut b1.extBut D.l1z
  have t2 := hl2.extBut b1.extBut D.l2z
  refine wpAny_bind (nextOf_tuple_item (s := { s with heap := h₁ }) g1 t1 hx fun h₂ g1' b2 => wpAny_pure (wpAny_pure (wpAny_bind (wpAny_bind (wpAny_holding ?_)))))
  show wpAny _ _ (Builtin.SmallTypes.nextOf (.ref i2) >>= _) _ _ _
  refine wpAny_bind (nextOf_tuple_item (s := { s with heap := h₂ }) (g2.extBut b2.extBut D.i12.symm) (t2.extBut b2.extBut D.l2i1) hy fun h₃ g2' b3 => wpAny_pure (wpAny_pure (wpAny_pure ?_)))
  show wpAny _ _ (newTuple [x, y] >>= _) _ _ _
  refine wpAny_bind (wpAny_newTuple ?_)
  have e3 : h₃.objs.size = s.heap.objs.size := by rw [b3.1, b2.1, b1.1]
  have z3 : IsZipHeld h₃ z TI TO T true := b3.extBut _ _ D.i2z.symm (b2.extBut _ _ D.i1z.symm hz₁)
  have k3 : ∀ c o, c ≠ z → c ≠ i1 → c ≠ i2 → s.heap.get? c = some o → h₃.get? c = some o := fun c o c1 c2 c3 e => b3.extBut _ _ c3 (b2.extBut _ _ c2 (b1.extBut _ _ c1 e))
  have g3 : h₃.IsTupleIter i1 l1 (k1 + 1) := g1'.extBut b3.extBut D.i12
  refine wpAny_pure ⟨_, rfl, wpAny_pure ?_⟩
  show Q (some (.ref h₃.objs.size)) _
  have hp : IsPair (h₃.push { cls := .type "tuple", data := .seq #[x, y] }) h₃.objs.size x y := Heap.get?_push_size _ rfl
  rw [e3] at hp ⊢
  exact hQ _ (Heap.get?_push_of_some _ z3) (g3.at fun o e => Heap.get?_push_of_some _ e) (g2'.at fun o e => Heap.get?_push_of_some _ e) hp fun c o c1 c2 c3 e => Heap.get?_push_of_some _ (k3 c o c1 c2 c3 e)
theorem held_end {z TI TO T i1 i2 l1 l2 : Addr} {f : Bool} {oT : Obj} {k1 k2 : Nat} {xs ys : Array Value} {Q : Option Value → Shared → Prop} (hh : A.handled = none) (D : ZipApart z TI TO i1 i2 l1 l2)
    (hz : IsZipHeld s.heap z TI TO T f) (hT : s.heap.get? T = some oT) (hTI : IsPair s.heap TI (.ref i1) (.ref i2))
    (h1 : s.heap.IsTupleIter i1 l1 k1) (h2 : s.heap.IsTupleIter i2 l2 k2) (hl1 : s.heap.IsTuple l1 xs) (hl2 : s.heap.IsTuple l2 ys) (hend : xs[k1]? = none ∨ ys[k2]? = none)
    (hQ : ∀ h', (∀ c o, c ≠ z → c ≠ i1 → c ≠ i2 → s.heap.get? c = some o → h'.get? c = some o) → Q none { s with heap := h' }) : wpAny (model prog w) A (pyNext (.ref z)) Q E s := by
  have hTy : s.TypeIs (.ref z) "zip" := ⟨_, hz, rfl⟩
  have fin : ∀ {h' : Heap} {e : Addr}, (∃ o, h'.get? e = some o ∧ o.cls = .type "StopIteration") → (∀ c o, c ≠ z → c ≠ i1 → c ≠ i2 → s.heap.get? c = some o → h'.get? c = some o) →
      wpAny (model prog w) A (isInstance (.ref e) (.type "StopIteration")) (fun b s' => b = true ∧ Q none s') E { s with heap := h' } := fun {h' e} he hk => by
    obtain ⟨o, ho, hc⟩ := he
    exact wpAny_isInstance (T := "StopIteration") (b := true) ⟨o, ho, hc⟩ isSubtype_stop ⟨rfl, hQ _ hk⟩
  unfold pyNext
  refine wpAny_bind (wpAny_attempt (wpAny_callSpecial?_slot (name := Str.ofString "__next__") hTy F.slot_zip_next (wpAny_call_entry F.slot_zip_next hTy F.entry_zip_next ?_ (F.args_zip_next_1 _))))
  show wpAny _ _ (field (.ref z) 2 >>= _) _ _ _
  refine wpAny_bind (wpAny_field hz rfl (x := .bool false) rfl ?_)
  show wpAny _ _ (field (.ref z) 3 >>= _) _ _ _
  refine wpAny_bind (wpAny_field hz rfl (x := .ref TI) rfl (wpAny_bind (wpAny_seqItems hTI rfl ?_)))
  show wpAny _ _ (Builtin.SmallTypes.ownedTupleIsFree (.ref z) >>= _) _ _ _
  refine wpAny_bind (wpAny_tupleHeld_zip hz hT fun h₁ hz₁ b1 => ?_)
  simp only [Bool.false_eq_true, if_false]
  refine wpAny_bind ?_
  rw [← Array.forIn_toList]
  simp only [List.forIn_cons, List.forIn_nil]
  refine wpAny_bind (wpAny_bind (wpAny_holding ?_))
  show wpAny _ _ (Builtin.SmallTypes.nextOf (.ref i1) >>= _) _ _ _
  have g1 := h1.extBut b1.extBut D.i1z
  have g2 := h2.extBut b1.extBut D.i2z
  have t1 := hl1.extBut b1.extBut D.l1z
  have t2 := hl2.extBut b1.extBut D.l2z
  cases hx : xs[k1]? with
  | none =>
    refine wpAny_bind (nextOf_tuple_end (s := { s with heap := h₁ }) hh g1 t1 hx fun h₂ e b2 he => ?_)
    refine wpAny_bind (wpAny_mono (fin he fun c o c1 c2 _ x => b2 _ _ c2 (b1.extBut _ _ c1 x)) (fun b s' hb => ?_) fun _ _ h => h)
    obtain ⟨rfl, q⟩ := hb
    exact wpAny_pure q
  | some x =>
    have hy : ys[k2]? = none := by rcases hend with h | h; rw [hx] at h; cases h; exact h
    refine wpAny_bind (nextOf_tuple_item (s := { s with heap := h₁ }) g1 t1 hx fun h₂ g1' b2 => wpAny_pure (wpAny_pure (wpAny_bind (wpAny_bind (wpAny_holding ?_)))))
    show wpAny _ _ (Builtin.SmallTypes.nextOf (.ref i2) >>= _) _ _ _
    refine wpAny_bind (nextOf_tuple_end (s := { s with heap := h₂ }) hh (g2.extBut b2.extBut D.i12.symm) (t2.extBut b2.extBut D.l2i1) hy fun h₃ e b3 he => ?_)
    refine wpAny_bind (wpAny_mono (fin he fun c o c1 c2 c3 x => b3 _ _ c3 (b2.extBut _ _ c2 (b1.extBut _ _ c1 x))) (fun b s' hb => ?_) fun _ _ h => h)
    obtain ⟨rfl, q⟩ := hb
    exact wpAny_pure q
end
theorem pairArg_zipT {prog : Program} {w : World} (z TI TO i1 i2 l1 l2 : Addr) (D : ZipApart z TI TO i1 i2 l1 l2) (xs ys : Array Value) :
    PairArg prog w "zip" z [z, TI, TO, i1, i2, l1, l2] [z, TO, i1, i2] (min xs.size ys.size) (fun i k v => xs[i]? = some k ∧ ys[i]? = some v)
      (fun h => IsZip h z TI TO .none ∧ IsPair h TI (.ref i1) (.ref i2) ∧ (∃ a b, IsPair h TO a b) ∧ h.IsTupleIter i1 l1 0 ∧ h.IsTupleIter i2 l2 0 ∧ h.IsTuple l1 xs ∧ h.IsTuple l2 ys) where
  type := fun s ok => ⟨_, ok.1, rfl⟩
  notDict := by decide
  keep := fun h h' ⟨hz, hTI, ⟨a, b, hTO⟩, h1, h2, hl1, hl2⟩ hk =>
    ⟨hk _ _ hz, hk _ _ hTI, ⟨a, b, hk _ _ hTO⟩, h1.at fun o e => hk _ o e, h2.at fun o e => hk _ o e, hl1.at fun o e => hk _ o e, hl2.at fun o e => hk _ o e⟩
  there := fun h ⟨hz, hTI, ⟨a, c, hTO⟩, ⟨o1, h1, _⟩, ⟨o2, h2, _⟩, ⟨o3, hl1, _⟩, ⟨o4, hl2, _⟩⟩ b hb => by
    simp only [List.mem_cons, List.not_mem_nil, or_false] at hb
    rcases hb with rfl | rfl | rfl | rfl | rfl | rfl | rfl <;> exact ⟨_, by assumption⟩
  sub := fun b hb => by simp at hb ⊢; rcases hb with rfl | rfl | rfl | rfl <;> simp
  noKeys := fun A s Q E hA ok h => getAttrOr_miss_zip ok.1 rfl rfl rfl zip_no_keys (by decide +kernel) hA h
  iter := fun A s d Q E hA ok hd hdf h => by
    obtain ⟨hz, hTI, ⟨a, b, hTO⟩, h1, h2, hl1, hl2⟩ := ok
    simp only [List.mem_cons, List.not_mem_nil, or_false, not_or] at hdf
    obtain ⟨dz, dTI, dTO, di1, di2, dl1, dl2⟩ := hdf
    refine wpAny_pyIter_zip hz (h z [z, TO, i1, i2] (fun i h => IsPair h TI (.ref i1) (.ref i2) ∧ h.IsTupleIter i1 l1 i ∧ h.IsTupleIter i2 l2 i ∧ h.IsTuple l1 xs ∧ h.IsTuple l2 ys ∧
      ((IsZip h z TI TO .none ∧ ∃ a b, IsPair h TO a b) ∨ ∃ T f oT, IsZipHeld h z TI TO T f ∧ h.get? T = some oT ∧ T ≠ z ∧ T ≠ i1 ∧ T ≠ i2 ∧ T ≠ d)) s.heap s.toks ?_
      ⟨hTI, h1, h2, hl1, hl2, .inl ⟨hz, a, b, hTO⟩⟩ (fun _ _ e => e) fun b hb => .inl hb)
    refine ⟨fun hm => ?_, fun i h₁ h₂ st hk => ?_, fun i s₁ Q₁ E₁ hi st hds hQ => ?_, fun s₁ Q₁ E₁ st hQ => ?_⟩
    · simp only [List.mem_cons, List.not_mem_nil, or_false] at hm
      rcases hm with e | e | e | e <;> contradiction
    · obtain ⟨hTI, h1, h2, hl1, hl2, hz⟩ := st
      refine ⟨hk _ _ (Ne.symm dTI) hTI, h1.at fun o e => hk _ o (Ne.symm di1) e, h2.at fun o e => hk _ o (Ne.symm di2) e, hl1.at fun o e => hk _ o (Ne.symm dl1) e, hl2.at fun o e => hk _ o (Ne.symm dl2) e, ?_⟩
      rcases hz with ⟨hz, a, b, hTO⟩ | ⟨T, f, oT, hz, hT, r1, r2, r3, r4⟩
      · exact .inl ⟨hk _ _ (Ne.symm dz) hz, a, b, hk _ _ (Ne.symm dTO) hTO⟩
      · exact .inr ⟨T, f, oT, hk _ _ (Ne.symm dz) hz, hk _ _ r4 hT, r1, r2, r3, r4⟩
    · obtain ⟨hTI, h1, h2, hl1, hl2, hz⟩ := st
      have ex := Array.getElem?_eq_getElem (Nat.lt_of_lt_of_le hi (Nat.min_le_left xs.size ys.size))
      have ey := Array.getElem?_eq_getElem (Nat.lt_of_lt_of_le hi (Nat.min_le_right xs.size ys.size))
      have lt : ∀ {c o}, s₁.heap.get? c = some o → s₁.heap.objs.size ≠ c := fun e => Nat.ne_of_gt (Heap.lt_size e)
      have n1 : s₁.heap.objs.size ≠ i1 := let ⟨_, e, _⟩ := h1; lt e
      have n2 : s₁.heap.objs.size ≠ i2 := let ⟨_, e, _⟩ := h2; lt e
      rcases hz with ⟨hz, a, b, hTO⟩ | ⟨T, f, oT, hz, hT, r1, r2, r3, r4⟩
      · refine pyNext_zipT_item D hz hTI hTO h1 h2 hl1 hl2 ex ey fun h' a1 a2 a3 a4 a5 a6 hk => ?_
        exact hQ s₁.heap.objs.size _ _ h' s₁.toks ⟨ex, ey⟩ (.inl ⟨_, a5, rfl, _, rfl⟩)
          ⟨hk _ _ D.TIz D.TITO D.TIi1 D.TIi2 hTI, a3, a4, hl1.at fun o e => hk _ o D.l1z D.l1TO D.l1i1 D.l1i2 e, hl2.at fun o e => hk _ o D.l2z D.l2TO D.l2i1 D.l2i2 e,
            .inr ⟨s₁.heap.objs.size, false, _, a1, a5, lt hz, n1, n2, Nat.ne_of_gt hds⟩⟩
          fun c o hc e => hk c o (fun x => hc (by simp [x])) (fun x => hc (by simp [x])) (fun x => hc (by simp [x])) (fun x => hc (by simp [x])) e
      · refine held_item D hz hT hTI h1 h2 hl1 hl2 ex ey fun h' a1 a3 a4 a5 hk => ?_
        exact hQ s₁.heap.objs.size _ _ h' s₁.toks ⟨ex, ey⟩ (.inl ⟨_, a5, rfl, _, rfl⟩)
          ⟨hk _ _ D.TIz D.TIi1 D.TIi2 hTI, a3, a4, hl1.at fun o e => hk _ o D.l1z D.l1i1 D.l1i2 e, hl2.at fun o e => hk _ o D.l2z D.l2i1 D.l2i2 e,
            .inr ⟨T, true, oT, a1, hk _ _ r1 r2 r3 hT, r1, r2, r3, r4⟩⟩
          fun c o hc e => hk c o (fun x => hc (by simp [x])) (fun x => hc (by simp [x])) (fun x => hc (by simp [x])) e
    · obtain ⟨hTI, h1, h2, hl1, hl2, hz⟩ := st
      have hend : xs[min xs.size ys.size]? = none ∨ ys[min xs.size ys.size]? = none := by
        rcases Nat.le_total xs.size ys.size with h | h
        · exact .inl (Array.getElem?_eq_none (by rw [Nat.min_eq_left h]; exact Nat.le_refl _))
        · exact .inr (Array.getElem?_eq_none (by rw [Nat.min_eq_right h]; exact Nat.le_refl _))
      rcases hz with ⟨hz, a, b, hTO⟩ | ⟨T, f, oT, hz, hT, r1, r2, r3, r4⟩
      · exact pyNext_zipT_end hA D hz hTI hTO h1 h2 hl1 hl2 hend fun h' hk => hQ h' s₁.toks fun c o hc e => hk c o (fun x => hc (by simp [x])) (fun x => hc (by simp [x])) (fun x => hc (by simp [x])) (fun x => hc (by simp [x])) e
      · exact held_end hA D hz hT hTI h1 h2 hl1 hl2 hend fun h' hk => hQ h' s₁.toks fun c o hc e => hk c o (fun x => hc (by simp [x])) (fun x => hc (by simp [x])) (fun x => hc (by simp [x])) e

section
variable {X : Cx}
def zipK (cs vs : List Int) : List (Key × V) := (cs.zip vs).map fun z => (Sum.inl z.1, V.int z.2)
def tDictZip (K : PySem.W.Frag) (ta : TA) : TE := fun σ H Q => ta σ H fun xs H1 => ∃ (a b : Addr) (cs vs : List Int), xs = [.ref a, .ref b] ∧ SqT K H1 a (cs.map V.int) ∧ SqT K H1 b (vs.map V.int) ∧ ∀ p, H1 p = none → Q (.ref p) (upd H1 p (.dK (mergeK [] (zipK cs vs))))
theorem zip_have {P : Program} {w : World} : ∀ {cs vs : List Int} {xs ys : List Value}, Vals (cs.map V.int) xs → Vals (vs.map V.int) ys → ∃ kvs : List (Key × Value), KV (zipK cs vs) kvs ∧ kvs.length = min xs.length ys.length ∧
    ∀ (i : Nat) (key v : Value), xs[i]? = some key → ys[i]? = some v → ∃ k, kvs[i]? = some (k, v) ∧ (mixKind P w).is k key = true
  | [], vs, xs, ys, r1, r2 => by
    cases r1
    exact ⟨[], .nil, by simp, fun i _ _ h => by simp at h⟩
  | c :: cs, [], xs, ys, r1, r2 => by
    cases r2
    exact ⟨[], .nil, by simp, fun i _ _ _ h => by simp at h⟩
  | c :: cs, v :: vs, xs, ys, r1, r2 => by
    cases r1 with
    | cons h1 t1 =>
      cases r2 with
      | cons h2 t2 =>
        obtain ⟨kvs, q1, q2, q3⟩ := zip_have (P := P) (w := w) t1 t2
        obtain ⟨tk, rfl⟩ := h1
        refine ⟨(Sum.inl c, _) :: kvs, .cons ⟨rfl, h2⟩ q1, by simp [q2], fun i key w' hk hv => ?_⟩
        cases i with
        | zero =>
          simp only [List.getElem?_cons_zero, Option.some.injEq] at hk hv
          subst hk hv
          exact ⟨_, rfl, mixKind_int _ _ _ _⟩
        | succ i => exact q3 i key w' hk hv
theorem pe_dictzip {a b : Expr} {ta : TA} {p p2 q pos : Pos} (hg : Gl X "dict") (hm : X.mg "dict" = none) (hg2 : Gl X "zip") (hm2 : X.mg "zip" = none) (ha : PA X [a, b] ta) (hc : X.calm = true := by rfl)
    (hs : starEach [a, b] X.env = (false, eval a X.env) :: starEach [b] X.env := by rfl) (hpl : (backTo q (starEach [b] X.env)).any (·.1) = false := by rfl) :
    PE X (.Call (.Name "dict" p) [.Call (.Name "zip" p2) [a, b] [] q] [] pos) (tDictZip X.K ta) := by
  refine ⟨fun pins s σ H Q I h => ?_⟩
  refine Call_ (ld_blt I hg hm boot_dict ?_)
  refine PyProof.Rows.callWith_type1 (PyProof.Rows.args_cons ?_ rfl) rfl rfl
  refine Call_ (ld_blt I hg2 hm2 PyProof.Rows.boot_zip ?_)
  refine PyProof.Rows.callWith_type1 (thn (ha.run q pins s σ H _ I h) fun us s1 ⟨xs, H1, I1, r1, q1⟩ => ?_) hs hpl
  obtain ⟨x, y, cs, vs, rfl, hx, hy, q1⟩ := q1
  cases r1 with
  | cons r rr =>
    cases rr with
    | cons r' rr =>
      cases rr
      cases r
      cases r'
      obtain ⟨its, rv, p1, z1⟩ := I1.tuple hx
      obtain ⟨its2, rv2, p2, z2⟩ := I1.tuple hy
      obtain ⟨o1, ho1, _⟩ := id p1
      obtain ⟨o2, ho2, _⟩ := id p2
      refine call_zipT (show s1.heap.IsTuple x its.toArray from p1) (show s1.heap.IsTuple y its2.toArray from p2) fun h' hz hTI hTO h1 h2 hsz hk => ?_
      refine PyProof.Rows.args_nil ?_
      have I2 : Inv X pins σ H1 { s1 with heap := h' } := I1.kept (t' := s1.toks) hk
      obtain ⟨kvs, g1, g2, g3⟩ := zip_have (P := X.prog) (w := X.w) rv rv2
      have lx := rv.length
      have ly := rv2.length
      have t1 : h'.IsTuple x its.toArray := (show s1.heap.IsTuple x its.toArray from p1).at fun o e => hk x o e
      have t2 : h'.IsTuple y its2.toArray := (show s1.heap.IsTuple y its2.toArray from p2).at fun o e => hk y o e
      refine PySem.call_dict_pairs (s := { s1 with heap := h' }) (knd := mixKind X.prog X.w) (kvs := kvs) (pairArg_zipT _ _ _ _ _ x y (PySem.W.ktu_apart s1.heap.objs.size x y (Heap.lt_size ho1) (Heap.lt_size ho2)) its.toArray its2.toArray) (I1.ok.hd hc)
        ⟨hz, hTI, ⟨_, _, hTO⟩, h1, h2, t1, t2⟩ ⟨by simpa using g2, fun i key v ⟨e1, e2⟩ => g3 i key v (by simpa using e1) (by simpa using e2)⟩ (by simp only [List.size_toArray]; omega) fun h'' tk dd hk2 => ?_
      have hle : ∀ b ∈ [s1.heap.objs.size + 4, s1.heap.objs.size + 3, s1.heap.objs.size, s1.heap.objs.size + 1], s1.heap.objs.size ≤ b := fun b hb => by
        simp only [List.mem_cons, List.not_mem_nil, or_false] at hb
        rcases hb with rfl | rfl | rfl | rfl
        · exact Nat.le_add_right _ _
        · exact Nat.le_add_right _ _
        · exact Nat.le_refl _
        · exact Nat.le_add_right _ _
      have ff : ∀ b ∈ [s1.heap.objs.size + 4, s1.heap.objs.size + 3, s1.heap.objs.size, s1.heap.objs.size + 1], FpOk X pins H1 b := fun b hb => I1.fpOk (hle b hb) (I1.hok.fresh (hle b hb))
      have len : (mergeK [] (zipK cs vs)).length ≤ sizeLine := by
        have e := length_mergeK (zipK cs vs) []
        have e2 : (zipK cs vs).length = min cs.length vs.length := by unfold zipK; simp
        simp only [List.length_map] at lx ly
        simp only [List.length_map] at z1
        rw [List.length_nil] at e
        omega
      have sysne : (h'.objs.size == sysModules) = false := beq_eq_false_iff_ne.mpr (Nat.ne_of_gt I2.big)
      have new : ObjOk X.prog X.w (upd H1 h'.objs.size (.dK (mergeK [] (zipK cs vs)))) h'' h'.objs.size (.dK (mergeK [] (zipK cs vs))) := dk_new len sysne (g1.merge .nil) dd
      have I3 := I2.turnedNew (t' := tk) (T := h'.objs.size) (ch := [s1.heap.objs.size + 4, s1.heap.objs.size + 3, s1.heap.objs.size, s1.heap.objs.size + 1]) hk2 ff (Nat.le_refl _) new
      exact ⟨.ref h'.objs.size, _, I3, rfl, q1 _ (I2.hok.fresh (Nat.le_refl _))⟩
end
end L2.NW
end
section
/-! Frames, comprehensions by an accumulator, walks of own dicts. -/
namespace L2.NW
open PySem PySem.Spec PyProof.Rows

/-- but for S the heap stays; tuples all stay -/
structure Fm (S : Addr → Prop) (H H' : Hp) : Prop where
  ob : ∀ a o, H a = some o → ¬ S a → H' a = some o
  tk : TK H H'
  tr : ∀ a, H' a = none → H a = none
section
variable {S S' : Addr → Prop} {H H1 H2 : Hp} {p a : Addr} {o u : HO}
abbrev Non : Addr → Prop := fun _ => False
theorem Fm.refl : Fm S H H := ⟨fun _ _ h _ => h, TK.refl _, fun _ h => h⟩
theorem Fm.trans (x : Fm S H H1) (y : Fm S H1 H2) : Fm S H H2 := ⟨fun a o h n => y.ob a o (x.ob a o h n) n, x.tk.trans y.tk, fun a h => x.tr a (y.tr a h)⟩
theorem Fm.weak (x : Fm S H H1) (h : ∀ a, S a → S' a) : Fm S' H H1 := ⟨fun a o e n => x.ob a o e fun z => n (h a z), x.tk, x.tr⟩
theorem Fm.step (x : Fm S H H1) (y : Fm S' H1 H2) (h : ∀ a, S' a → S a ∨ H a = none) : Fm S H H2 :=
  ⟨fun a o e n => y.ob a o (x.ob a o e n) (fun z => (h a z).elim n (fun z => by rw [z] at e; cases e)), x.tk.trans y.tk, fun a h => x.tr a (y.tr a h)⟩
theorem Fm.of_same (s : Same H H1) : Fm S H H1 := ⟨fun a o e _ => s a o e, TK.of_same s, fun a e => by
  cases q : H a with
  | none => rfl
  | some o => rw [s a o q] at e; cases e⟩
theorem Fm.same (x : Fm Non H H1) : Same H H1 := fun a o e => x.ob a o e id
theorem Fm.new (h : H p = none) : Fm S H (upd H p o) := .of_same fun a u e => by rw [upd_ne (ne_of_none e h)]; exact e
theorem Fm.mut (h : H p = some u) (hn : ∀ xs, u ≠ .tup xs) (hs : S p) : Fm S H (upd H p o) := ⟨fun a v e n => by
    rw [upd_ne (fun z => n (by rw [z]; exact hs))]; exact e, TK.mut h hn, fun a e => by
    by_cases q : a = p
    · subst q; rw [upd_same] at e; cases e
    · rw [upd_ne q] at e; exact e⟩
theorem Fm.put {P : Program} {w : World} {kvs ls : List (TKey × V)} (x : NPut P w H p kvs H1) (d : NDict P w H p ls) (hs : S p) : Fm S H H1 := by
  obtain ⟨es, ep, rfl, _⟩ := x
  obtain ⟨e', p', q⟩ := d.ob
  exact .mut q rawD_ne hs
theorem Fm.putnew {P : Program} {w : World} {kvs : List (TKey × V)} (x : NPut P w H p kvs H1) (h : H p = none) : Fm S H H1 := .of_same (x.new_tk h)
/-- writes to what was not there do not count -/
theorem Fm.off (x : Fm (fun a => S a ∨ a = p) H H1) (h : H p = none) : Fm S H H1 :=
  ⟨fun a o e n => x.ob a o e fun z => z.elim n (ne_of_none e h), x.tk, x.tr⟩
theorem Fm.nd {P : Program} {w : World} {kvs : List (TKey × V)} (x : Fm S H H1) (d : NDict P w H p kvs) (n : ¬ S p) : NDict P w H1 p kvs := by
  obtain ⟨es, ep, q⟩ := d.ob
  exact d.keep (by rw [q]; exact x.ob _ _ q n) x.tk
theorem Fm.sl {K : PySem.W.Frag} {xs : List V} (x : Fm S H H1) (d : SqL K H p xs) (n : ¬ S p) : SqL K H1 p xs := by
  rcases d with (d | ⟨o, d⟩) | d
  · exact .inl (.inl (x.ob _ _ d n))
  · exact .inl (.inr ⟨o, x.ob _ _ d n⟩)
  · exact .inr d
theorem Fm.ne (x : Fm S H H1) (h : H a = some o) (h' : H1 p = none) : a ≠ p := fun z => by
  subst z; rw [x.tr _ h'] at h; cases h
theorem Fm.st {K : PySem.W.Frag} {xs : List V} (x : Fm S H H1) (d : SqT K H p xs) (n : ¬ S p) : SqT K H1 p xs := by
  rcases d with (d | ⟨o, d⟩) | d
  · exact .inl (.inl (x.ob _ _ d n))
  · exact .inl (.inr ⟨o, x.ob _ _ d n⟩)
  · exact .inr d
theorem lst_ne {xs ys : List V} : (HO.lst xs) ≠ .tup ys := fun z => nomatch z
end

/-! ### comprehensions by an accumulator -/
/-- a list comprehension: A tells of the list so far; S may be written to by what is evaluated -/
theorem lc_acc {J : It} {n : Nat} {G : Hp → Prop} {Y : Nat → Hp → V → Hp → Prop} (w : Walk J n G Y) {j : Nat} {tt : TT} {te : TE} {vs : List Nat} {σ : St} {H1 : Hp} {D : Addr} {Qd : Hp → Prop} {S : Addr → Prop}
    (A : Nat → List V → Hp → Prop) (hn : n ≤ 100000) (hD : H1 D = none) (hS : ¬ S D) (hw : ∀ x, wipe ((wipe σ vs).set j (some x)) vs = wipe σ vs) (hG : ∀ H, Fm S H1 H → G H) (mono : ∀ i acc H H', A i acc H → Fm (fun a => S a ∨ a = D) H H' → A i acc H') (h0 : A 0 [] H1)
    (hs : ∀ i x acc H H', i < n → Fm S H1 H → A i acc H → Y i H x H' → Fm S H H' ∧ (Fm S H1 H' → A i acc H' → ∀ (Qt : VK) (Qf : Hp → Prop), (∀ y H4, Fm S H' H4 → A (i + 1) (acc ++ [y]) H4 → Qt y H4) → (∀ H3, Fm S H' H3 → A (i + 1) acc H3 → Qf H3) →
      tt ((wipe σ vs).set j (some x)) H' fun b H3 => if b = true then te ((wipe σ vs).set j (some x)) H3 Qt else Qf H3))
    (hd : ∀ acc H, Fm S H1 H → acc.length ≤ n → H D = some (.lst acc) → A n acc H → Qd H) :
    ∃ W : Nat → Nat → Hp → Prop, (∃ m, W 0 m (upd H1 D (.lst []))) ∧ ∀ i m H, W i m H →
      (J.stop i H ∧ Qd H) ∨ (J.go i H ∧ ∃ Nx : Hp → Prop, (∀ H', Nx H' → ∃ m', m' < m ∧ W (i + 1) m' H') ∧ ∀ x H', J.yld i H x H' → gName j x (wipe σ vs) H' fun σ2 H2 => wipe σ2 vs = wipe σ vs ∧ tt σ2 H2 fun b H3 =>
        if b = true then te σ2 H3 fun y H4 => ∃ acc, H4 D = some (.lst acc) ∧ acc.length < sizeLine ∧ Nx (upd H4 D (.lst (acc ++ [y]))) else Nx H3) := by
  have e0 : sizeLine = 100000000 ∨ 100000 < sizeLine := .inr (by decide)
  have hz : 100000 < sizeLine := by decide
  refine lc_it w (fun i H => ∃ acc, acc.length ≤ i ∧ Fm S H1 H ∧ H D = some (.lst acc) ∧ A i acc H) ⟨[], Nat.le_refl _, .new hD, upd_same, mono _ _ _ _ h0 (.new hD)⟩ (fun i H _ ⟨_, _, f, _⟩ => hG H f) ?_ fun H ⟨acc, hl, f, hd', a⟩ => hd acc H f hl hd' a
  rintro i x H H' hi ⟨acc, hl, f, hd', a⟩ y
  obtain ⟨f1, k⟩ := hs i x acc H H' hi f a y
  refine ⟨hw x, k (f.trans f1) (mono _ _ _ _ a (f1.weak fun _ z => .inl z)) _ _ (fun v H4 f4 a4 => ?_) fun H3 f3 a3 => ⟨acc, by omega, f.trans (f1.trans f3), (f1.trans f3).ob _ _ hd' hS, a3⟩⟩
  have f4 := f1.trans f4
  have d4 := f4.ob _ _ hd' hS
  refine ⟨acc, d4, by omega, acc ++ [v], by rw [List.length_append, List.length_singleton]; omega, ?_, upd_same, mono _ _ _ _ a4 (.mut d4 (fun _ => lst_ne) (.inr rfl))⟩
  exact ((f.trans f4).weak fun _ z => .inl z).trans (.mut d4 (fun _ => lst_ne) (.inr rfl)) |>.off hD
/-- a loop of a dict comprehension: Pv by the turn and the heap -/
theorem dc_it {J : It} {n : Nat} {G : Hp → Prop} {Y : Nat → Hp → V → Hp → Prop} (w : Walk J n G Y) {g : TG} {tt : TT} {tb : TB} {vs : List Nat} {σ : St} {H : Hp} {Nx : Hp → Prop} (Pv : Nat → Hp → Prop) (hw : wipe σ vs = σ) (h0 : Pv 0 H) (hG : ∀ i H, i ≤ n → Pv i H → G H)
    (hs : ∀ i x H H', i < n → Pv i H → Y i H x H' → g x σ H' fun σ2 H2 => wipe σ2 vs = σ ∧ tt σ2 H2 fun b H3 => if b = true then tb σ2 H3 (Pv (i + 1)) else Pv (i + 1) H3) (hd : ∀ H, Pv n H → Nx H) : tLoopIn J g tt tb vs σ H Nx := by
  refine ⟨hw, fun i m H => m = n - i ∧ i ≤ n ∧ Pv i H, ⟨n, by simp, Nat.zero_le _, h0⟩, ?_⟩
  rintro i m H ⟨rfl, hi, p⟩
  have q := hG i H hi p
  by_cases hlt : i < n
  · exact .inr ⟨w.goes i H hlt q, Pv (i + 1), fun H' p' => ⟨n - (i + 1), by omega, rfl, hlt, p'⟩, fun x H' y => hs i x H H' hlt p (w.yields i H x H' hlt q y)⟩
  · have e : i = n := by omega
    subst e
    exact .inl ⟨w.stops H q, hd H p⟩
/-! ### walks of own dicts -/
section
variable {P : Program} {w : World} {H0 : Hp} {d : Addr} {es : Array DictEntry} {ep : Nat} {kvs : List (TKey × V)}
theorem ent_at {xs : List (TKey × Addr × Value)} (p : Paired (EntIs P w H0) kvs xs) : ∀ {i : Nat} {q : TKey × V}, kvs[i]? = some q → ∃ x, xs[i]? = some x ∧ EntIs P w H0 q x := by
  induction p with
  | nil => intro i q h; simp at h
  | @cons a b as bs hab t ih =>
    intro i q h
    cases i with
    | zero => simp at h; subst h; exact ⟨b, by simp, hab⟩
    | succ i => simp at h; obtain ⟨x, h1, h2⟩ := ih h; exact ⟨x, by simpa using h1, h2⟩
theorem nat_size (n : NAt P w H0 d es ep kvs) : es.size = kvs.length := by
  obtain ⟨xs, p, e, _⟩ := n.ent
  have h1 := Paired.length p
  have h2 := congrArg List.length e
  simp at h2
  omega
theorem nat_ent (n : NAt P w H0 d es ep kvs) {i : Nat} (h : i < es.size) : ∃ (k : TKey) (v : V) (a : Addr), kvs[i]? = some (k, v) ∧ es[i].key = .ref a ∧ H0 a = some (.tup (k.map oV)) ∧ RelV v es[i].val := by
  obtain ⟨xs, p, e, _⟩ := n.ent
  have hz := nat_size n
  have hk : kvs[i]? = some (kvs[i]'(by omega)) := List.getElem?_eq_getElem _
  obtain ⟨x, hx, h1, h2, h3⟩ := ent_at p hk
  have e1 : es.toList[i]? = (xs.map (entryOfKey (nk P w)))[i]? := by rw [e]
  rw [List.getElem?_map, hx] at e1
  simp [h] at e1
  refine ⟨_, _, x.2.1, hk, ?_, by rw [h1] at h2; exact (congrArg (fun l : TKey => H0 x.2.1 = some (HO.tup (l.map oV))) h1).mpr h2, ?_⟩
  · rw [e1]; rfl
  · rw [e1]; exact h3
theorem walk_nk (n : NAt P w H0 d es ep kvs) : Walk (ItNK d es ep) kvs.length (fun H => H d = some (rawD d es ep)) (fun i H x H' => H' = H ∧ ∃ k v a, kvs[i]? = some (k, v) ∧ x = .ref a ∧ H0 a = some (.tup (k.map oV))) := by
  have hz := nat_size n
  refine ⟨fun i H hi h => ⟨h, by omega, ?_⟩, fun H h => ⟨h, by omega⟩, fun i H x H' hi h y => ?_⟩
  · obtain ⟨k, v, a, h1, h2, _⟩ := nat_ent n (show i < es.size by omega)
    exact ⟨a, h2⟩
  · obtain ⟨e, hi', q, hq, rfl⟩ := y
    obtain ⟨k, v, a, h1, h2, h3, _⟩ := nat_ent n hi'
    rw [h2] at hq
    cases hq
    exact ⟨e, k, v, _, h1, rfl, h3⟩
theorem walk_nv (n : NAt P w H0 d es ep kvs) : Walk (ItNV d es ep) kvs.length (fun H => H d = some (rawD d es ep)) (fun i H x H' => H' = H ∧ ∃ k, kvs[i]? = some (k, x)) := by
  have hz := nat_size n
  refine ⟨fun i H hi h => ⟨h, by omega, ?_⟩, fun H h => ⟨h, by omega⟩, fun i H x H' hi h y => ?_⟩
  · obtain ⟨k, v, a, h1, h2, h3, h4⟩ := nat_ent n (show i < es.size by omega)
    exact ⟨v, h4⟩
  · obtain ⟨e, hi', hq⟩ := y
    obtain ⟨k, v, a, h1, h2, h3, h4⟩ := nat_ent n hi'
    rw [RelV.inj hq h4]
    exact ⟨e, k, h1⟩
theorem walk_ni (n : NAt P w H0 d es ep kvs) : Walk (ItNI d es ep) kvs.length (fun H => H d = some (rawD d es ep)) (fun i H x H' => ∃ T k v a, x = .ref T ∧ H T = none ∧ H' = upd H T (.tup [.ref a, v]) ∧ kvs[i]? = some (k, v) ∧ H0 a = some (.tup (k.map oV))) := by
  have hz := nat_size n
  refine ⟨fun i H hi h => ⟨h, by omega, ?_⟩, fun H h => ⟨h, by omega⟩, fun i H x H' hi h y => ?_⟩
  · obtain ⟨k, v, a, h1, h2, h3, h4⟩ := nat_ent n (show i < es.size by omega)
    exact ⟨⟨a, h2⟩, v, h4⟩
  · obtain ⟨hi', T, q, v, hq, hv, rfl, hT, rfl⟩ := y
    obtain ⟨k, v', a, h1, h2, h3, h4⟩ := nat_ent n hi'
    rw [h2] at hq
    cases hq
    rw [RelV.inj hv h4]
    exact ⟨T, k, v', _, rfl, hT, rfl, h1, h3⟩
end
theorem walk_r0 {n : Nat} : Walk (Itr 0 n) n (fun _ => True) (fun i H x H' => H' = H ∧ x = .int (i : Int)) :=
  ⟨fun _ _ hi _ => hi, fun _ _ => Nat.le_refl _, fun i _ _ _ _ _ y => ⟨y.1, by rw [y.2, show (0 : Int) + (i : Int) = i by omega]⟩⟩
theorem walk_et {K : PySem.W.Frag} {a : Addr} {xs : List V} : Walk (ItET K a) xs.length (fun H => SqT K H a xs) (fun i H v H' => ∃ T x, v = .ref T ∧ H T = none ∧ H' = upd H T (.tup [.int (i : Nat), x]) ∧ xs[i]? = some x) :=
  ⟨fun i _ hi q => ⟨xs, xs[i], q, by simp [hi]⟩, fun _ q => ⟨xs, q, Nat.le_refl _⟩, fun _ _ _ _ _ q y => let ⟨T, x, h1, h2, h3, h4⟩ := y; ⟨T, x, h1, h2, h3, h4 xs q⟩⟩
end L2.NW
end
section
namespace Nor
open PySem L2
/-! the text by places -/
def top (i : Nat) : Stmt := PySem.Challenge.pw_norowstray_k38_whole_more_rows_make_more.main.body.getD i (.Pass ⟨0, 0, 0, 0⟩)
abbrev sPicked : Stmt := top 2
abbrev sAgree : Stmt := top 4
abbrev sPartsOf : Stmt := top 6
abbrev sMissing : Stmt := top 7
abbrev sInit : Stmt := inClass (top 8) 0
abbrev sStore : Stmt := inClass (top 8) 1
abbrev sReplace : Stmt := inClass (top 8) 3
abbrev sNewValue : Stmt := inClass (top 8) 4
abbrev sMakeEqual : Stmt := inClass (top 8) 5
abbrev sPutIn : Stmt := inClass (top 8) 6
abbrev sPutBelow : Stmt := inClass (top 8) 7
abbrev sUnequal : Stmt := inClass (top 8) 8
abbrev sSettle : Stmt := inClass (top 8) 9
abbrev sFill : Stmt := inClass (top 8) 10
abbrev sLead : Stmt := inClass (top 8) 11
abbrev sWork : Stmt := inClass (top 8) 12
abbrev sRun : Stmt := inClass (top 8) 13
abbrev sChased : Stmt := top 9
abbrev sChase : Stmt := top 10
abbrev sSure : Stmt := top 11
abbrev sDraws : Stmt := top 13
abbrev sTake : Stmt := top 14
abbrev sCell : Stmt := top 15
abbrev sScheme : Stmt := top 16
abbrev sMixed : Stmt := top 17
abbrev sColumns : Stmt := top 18
abbrev sParts : Stmt := top 19
abbrev sInTable : Stmt := top 20
abbrev sInclusion : Stmt := top 21
abbrev sDependency : Stmt := top 22
abbrev sBook : Stmt := top 23
abbrev sLStore : Stmt := top 24
abbrev sScene : Stmt := top 25
abbrev sBound : Stmt := top 26
abbrev sMost : Stmt := top 27
abbrev sIsTame : Stmt := top 28
abbrev sKept : Stmt := top 29
abbrev sAreWithin : Stmt := top 30
abbrev sLaw : Stmt := top 31
end Nor
end
section
/-! Stores, dependencies, chase steps: the plain theory, no program in sight. -/
namespace Nor
open Classical

abbrev Row := List Int
abbrev Store := Nat → Row → Prop
/-- a cell -/
def at' (r : Row) (c : Nat) : Int := r.getD c 0
def picks (r : Row) (cs : List Nat) : List Int := cs.map (at' r)

inductive Dep where
  | settles (t : Nat) (l r : List Nat)
  | deals (t : Nat) (l r : List Nat)
  | joins (t : Nat) (ps : List (List Nat))
  | within (t : Nat) (cs : List Nat) (o : Nat) (os : List Nat)
  deriving DecidableEq

/-- the two parts of a many-valued dependency -/
def dealParts (w : Nat) (l r : List Nat) : List (List Nat) :=
  [(List.range w).filter fun c => decide (c ∈ l) || decide (c ∈ r), (List.range w).filter fun c => decide (c ∈ l) || !decide (c ∈ r)]

def SatSettles (U : Store) (t : Nat) (l r : List Nat) : Prop := ∀ a b, U t a → U t b → picks a l = picks b l → picks a r = picks b r
def SatParts (U : Store) (w t : Nat) (ps : List (List Nat)) : Prop := ∀ r : Row, r.length = w → (∀ p ∈ ps, ∃ a, U t a ∧ picks a p = picks r p) → U t r
def SatWithin (U : Store) (t : Nat) (cs : List Nat) (o : Nat) (os : List Nat) : Prop := ∀ a, U t a → ∃ b, U o b ∧ picks b os = picks a cs

/-- the parts, if it is a dependency of that kind -/
def Dep.parts (w : Nat → Nat) : Dep → Option (Nat × List (List Nat))
  | .deals t l r => some (t, dealParts (w t) l r)
  | .joins t ps => some (t, ps)
  | _ => none
def Sat (w : Nat → Nat) (U : Store) : Dep → Prop
  | .settles t l r => SatSettles U t l r
  | .deals t l r => SatParts U (w t) t (dealParts (w t) l r)
  | .joins t ps => SatParts U (w t) t ps
  | .within t cs o os => SatWithin U t cs o os

def sub (a b : Int) (v : Int) : Int := if v = a then b else v
def subRow (a b : Int) (r : Row) : Row := r.map (sub a b)
def subStore (a b : Int) (T : Store) : Store := fun t r => ∃ r0, T t r0 ∧ r = subRow a b r0
def addRow (T : Store) (t : Nat) (r : Row) : Store := fun t' r' => T t' r' ∨ (t' = t ∧ r' = r)

theorem length_subRow (a b : Int) (r : Row) : (subRow a b r).length = r.length := by simp [subRow]
theorem at_map (f : Int → Int) (r : Row) (c : Nat) (h : c < r.length) : at' (r.map f) c = f (at' r c) := by
  simp [at', h]
theorem picks_map (f : Int → Int) (r : Row) (cs : List Nat) (h : ∀ c ∈ cs, c < r.length) : picks (r.map f) cs = (picks r cs).map f := by
  unfold picks
  rw [List.map_map]
  exact List.map_congr_left fun c hc => at_map f r c (h c hc)
theorem row_ext {a b : Row} (hl : a.length = b.length) (h : ∀ c, c < a.length → at' a c = at' b c) : a = b := by
  apply List.ext_getElem hl
  intro i h1 h2
  have := h i h1
  simpa [at', h1, h2] using this

/-- well-formed: rows of the right widths, in the tables that are there -/
def WF (n : Nat) (w : Nat → Nat) (T : Store) : Prop := ∀ t r, T t r → t < n ∧ r.length = w t
/-- a dependency of the scheme -/
def DepOk (n : Nat) (w : Nat → Nat) : Dep → Prop
  | .settles t l r => t < n ∧ (∀ c ∈ l, c < w t) ∧ ∀ c ∈ r, c < w t
  | .deals t l r => t < n ∧ (∀ c ∈ l, c < w t) ∧ ∀ c ∈ r, c < w t
  | .joins t ps => t < n ∧ ps ≠ [] ∧ (∀ p ∈ ps, ∀ c ∈ p, c < w t) ∧ ∀ c, c < w t → ∃ p ∈ ps, c ∈ p
  | .within t cs o os => t < n ∧ o < n ∧ t ≠ o ∧ cs.length = os.length ∧ os.Nodup ∧ (∀ c ∈ cs, c < w t) ∧ ∀ c ∈ os, c < w o

/-- one step of a chase -/
inductive Step (w : Nat → Nat) (bk : List Dep) : Store → Store → Prop where
  | eq {T : Store} {t : Nat} {l r : List Nat} {x y : Row} {c : Nat} {a b : Int} (hd : Dep.settles t l r ∈ bk) (hx : T t x) (hy : T t y) (hl : picks x l = picks y l) (hc : c ∈ r)
      (hab : (at' x c = a ∧ at' y c = b) ∨ (at' x c = b ∧ at' y c = a)) (hlt : a < b) (hneg : a < 0) : Step w bk T (subStore a b T)
  | row {T : Store} {d : Dep} {t : Nat} {ps : List (List Nat)} {r : Row} (hd : d ∈ bk) (hp : d.parts w = some (t, ps)) (hr : r.length = w t) (hn : ¬ T t r)
      (hj : ∀ p ∈ ps, ∃ a, T t a ∧ picks a p = picks r p) : Step w bk T (addRow T t r)
  | put {T : Store} {t o : Nat} {cs os : List Nat} {x r : Row} (hd : Dep.within t cs o os ∈ bk) (hx : T t x) (hn : ∀ y, T o y → picks y os ≠ picks x cs) (hr : r.length = w o)
      (hm : picks r os = picks x cs) (hneg : ∀ c, c < w o → c ∉ os → at' r c < 0) (hfr : ∀ c, c < w o → c ∉ os → ∀ u y, T u y → at' r c ∉ y)
      (hdist : ∀ c c', c < w o → c' < w o → c ∉ os → c' ∉ os → c ≠ c' → at' r c ≠ at' r c') : Step w bk T (addRow T o r)
/-- two known values would have to become the same -/
def Clash (bk : List Dep) (T : Store) : Prop := ∃ t l r x y c, Dep.settles t l r ∈ bk ∧ T t x ∧ T t y ∧ picks x l = picks y l ∧ c ∈ r ∧ at' x c ≠ at' y c ∧ 0 ≤ at' x c ∧ 0 ≤ at' y c

inductive Steps (w : Nat → Nat) (bk : List Dep) : Nat → Store → Store → Prop where
  | zero (T : Store) : Steps w bk 0 T T
  | succ {n : Nat} {T U V : Store} (h : Steps w bk n T U) (s : Step w bk U V) : Steps w bk (n + 1) T V

/-! ### homomorphisms -/
def Fixes (h : Int → Int) : Prop := ∀ v, 0 ≤ v → h v = v
def Hom (h : Int → Int) (T U : Store) : Prop := ∀ t r, T t r → U t (r.map h)

theorem parts_ok {n : Nat} {w : Nat → Nat} {d : Dep} {t : Nat} {ps : List (List Nat)} (ok : DepOk n w d) (hp : d.parts w = some (t, ps)) : t < n ∧ ps ≠ [] ∧ (∀ p ∈ ps, ∀ c ∈ p, c < w t) ∧ ∀ c, c < w t → ∃ p ∈ ps, c ∈ p := by
  cases d with
  | settles => cases hp
  | within => cases hp
  | joins t' ps' => cases hp; exact ok
  | deals t' l r =>
    cases hp
    refine ⟨ok.1, by simp [dealParts], fun p hp c hc => ?_, fun c hc => ?_⟩
    · simp only [dealParts, List.mem_cons, List.not_mem_nil, or_false] at hp
      rcases hp with rfl | rfl <;> exact List.mem_range.mp (List.mem_filter.mp hc).1
    · by_cases h : c ∈ l ∨ c ∈ r
      · exact ⟨_, List.mem_cons_self, List.mem_filter.mpr ⟨List.mem_range.mpr hc, by simpa using h⟩⟩
      · exact ⟨_, List.mem_cons_of_mem _ List.mem_cons_self, List.mem_filter.mpr ⟨List.mem_range.mpr hc, by simp only [not_or] at h; simp [h.2]⟩⟩
theorem sat_parts {w : Nat → Nat} {U : Store} {d : Dep} {t : Nat} {ps : List (List Nat)} (hp : d.parts w = some (t, ps)) (s : Sat w U d) : SatParts U (w t) t ps := by
  cases d with
  | settles => cases hp
  | within => cases hp
  | joins t' ps' => cases hp; exact s
  | deals t' l r => cases hp; exact s

theorem step_wf {n : Nat} {w : Nat → Nat} {bk : List Dep} {T T' : Store} (ok : ∀ d ∈ bk, DepOk n w d) (wf : WF n w T) (s : Step w bk T T') : WF n w T' := by
  cases s with
  | eq => rintro t r ⟨r0, h, rfl⟩; rw [length_subRow]; exact wf t r0 h
  | row hd hp hr hn hj =>
    rintro t r (h | ⟨rfl, rfl⟩)
    · exact wf t r h
    · exact ⟨(parts_ok (ok _ hd) hp).1, hr⟩
  | put hd hx hn hr =>
    rintro t r (h | ⟨rfl, rfl⟩)
    · exact wf t r h
    · exact ⟨(ok _ hd).2.1, hr⟩
theorem steps_wf {n m : Nat} {w : Nat → Nat} {bk : List Dep} {T T' : Store} (ok : ∀ d ∈ bk, DepOk n w d) (wf : WF n w T) (s : Steps w bk m T T') : WF n w T' := by
  induction s with
  | zero => exact wf
  | succ _ s ih => exact step_wf ok (ih wf) s

/-- a step forward stays below a store that keeps the book -/
theorem step_hom {n : Nat} {w : Nat → Nat} {bk : List Dep} {T T' U : Store} {h : Int → Int} (ok : ∀ d ∈ bk, DepOk n w d) (wf : WF n w T) (wu : WF n w U) (su : ∀ d ∈ bk, Sat w U d) (fx : Fixes h) (hm : Hom h T U)
    (s : Step w bk T T') : ∃ h', Fixes h' ∧ Hom h' T' U := by
  cases s with
  | @eq t l r x y c a b hd hx hy hl hc hab hlt hneg =>
    have hab' : h a = h b := by
      have s := su _ hd
      have k := ok _ hd
      have e1 := (wf _ _ hx).2
      have e2 := (wf _ _ hy).2
      have q : picks (x.map h) l = picks (y.map h) l := by
        rw [picks_map h x l fun c hc => by rw [e1]; exact k.2.1 c hc, picks_map h y l fun c hc => by rw [e2]; exact k.2.1 c hc, hl]
      have q2 := s _ _ (hm _ _ hx) (hm _ _ hy) q
      rw [picks_map h x r fun c hc => by rw [e1]; exact k.2.2 c hc, picks_map h y r fun c hc => by rw [e2]; exact k.2.2 c hc] at q2
      have q3 : h (at' x c) = h (at' y c) := by
        have z : ∀ l : List Nat, c ∈ l → (picks x l).map h = (picks y l).map h → h (at' x c) = h (at' y c) := by
          intro l
          induction l with
          | nil => intro z; cases z
          | cons d r ih =>
            intro hc e
            simp only [picks, List.map_cons, List.cons.injEq] at e
            rcases List.mem_cons.mp hc with rfl | hc
            · exact e.1
            · exact ih hc e.2
        exact z r hc q2
      rcases hab with ⟨rfl, rfl⟩ | ⟨rfl, rfl⟩
      · exact q3
      · exact q3.symm
    refine ⟨h, fx, ?_⟩
    rintro u r' ⟨r0, h0, rfl⟩
    have : (subRow a b r0).map h = r0.map h := by
      unfold subRow
      rw [List.map_map]
      refine List.map_congr_left fun v _ => ?_
      show h (sub a b v) = h v
      unfold sub
      split
      · rename_i e; rw [e, hab']
      · rfl
    rw [this]
    exact hm _ _ h0
  | @row d t ps r hd hp hr hn hj =>
    refine ⟨h, fx, ?_⟩
    rintro u r' (h0 | ⟨rfl, rfl⟩)
    · exact hm _ _ h0
    · refine sat_parts hp (su _ hd) _ (by rw [List.length_map, hr]) fun p hpp => ?_
      obtain ⟨a, ha, e⟩ := hj p hpp
      have k := (parts_ok (ok _ hd) hp).2.2.1 p hpp
      refine ⟨_, hm _ _ ha, ?_⟩
      rw [picks_map h a p fun c hc => by rw [(wf _ _ ha).2]; exact k c hc, picks_map h _ p fun c hc => by rw [hr]; exact k c hc, e]
  | @put t o cs os x r hd hx hn hr hmt hneg hfr hdist =>
    obtain ⟨b, hb, e⟩ := su _ hd _ (hm _ _ hx)
    have k := ok _ hd
    have lx := (wf _ _ hx).2
    rw [picks_map h x cs fun c hc => by rw [lx]; exact k.2.2.2.2.2.1 c hc] at e
    -- fresh values go to the values of b
    let h' : Int → Int := fun v => if q : ∃ c, c < w o ∧ c ∉ os ∧ at' r c = v then at' b q.choose else h v
    have old : ∀ v, (∀ c, c < w o → c ∉ os → at' r c ≠ v) → h' v = h v := fun v hv => by
      show (if q : ∃ c, c < w o ∧ c ∉ os ∧ at' r c = v then at' b q.choose else h v) = h v
      rw [dif_neg]
      rintro ⟨c, h1, h2, h3⟩
      exact hv c h1 h2 h3
    have new : ∀ c, c < w o → c ∉ os → h' (at' r c) = at' b c := fun c h1 h2 => by
      show (if q : ∃ c', c' < w o ∧ c' ∉ os ∧ at' r c' = at' r c then at' b q.choose else h (at' r c)) = at' b c
      have q : ∃ c', c' < w o ∧ c' ∉ os ∧ at' r c' = at' r c := ⟨c, h1, h2, rfl⟩
      rw [dif_pos q]
      obtain ⟨g1, g2, g3⟩ := q.choose_spec
      by_cases e : q.choose = c
      · rw [e]
      · exact absurd g3 (hdist _ _ g1 h1 g2 h2 e)
    have oldRow : ∀ u y, T u y → y.map h' = y.map h := fun u y hy => List.map_congr_left fun v hv => old v fun c h1 h2 e => hfr c h1 h2 u y hy (e ▸ hv)
    refine ⟨h', fun v hv => ?_, ?_⟩
    · rw [old v fun c h1 h2 e => by have := hneg c h1 h2; omega]
      exact fx v hv
    · rintro u r' (h0 | ⟨rfl, rfl⟩)
      · rw [oldRow _ _ h0]; exact hm _ _ h0
      · have lb := (wu _ _ hb).2
        have : r'.map h' = b := by
          refine row_ext (by rw [List.length_map, hr, lb]) fun c hc => ?_
          rw [List.length_map, hr] at hc
          rw [at_map h' r' c (by rw [hr]; exact hc)]
          by_cases hco : c ∈ os
          · have z : ∀ (os cs : List Nat), picks r' os = picks x cs → picks b os = (picks x cs).map h → c ∈ os → ∃ v ∈ picks x cs, at' r' c = v ∧ at' b c = h v := by
              intro os
              induction os with
              | nil => intro cs _ _ z; cases z
              | cons d os ih =>
                intro cs e1 e2 hc
                cases cs with
                | nil => cases e1
                | cons d' cs =>
                  simp only [picks, List.map_cons, List.cons.injEq] at e1 e2
                  rcases List.mem_cons.mp hc with rfl | hc
                  · exact ⟨_, List.mem_cons_self, e1.1, e2.1⟩
                  · obtain ⟨v, h1, h2⟩ := ih cs e1.2 e2.2 hc
                    exact ⟨v, List.mem_cons_of_mem _ h1, h2⟩
            obtain ⟨v, hv, e1, e2⟩ := z os cs hmt e hco
            rw [e1, e2]
            refine old v fun c' h1 h2 e3 => ?_
            obtain ⟨c2, hc2, rfl⟩ := List.mem_map.mp hv
            refine hfr c' h1 h2 _ _ hx ?_
            rw [e3]
            have hlt : c2 < x.length := by rw [lx]; exact k.2.2.2.2.2.1 c2 hc2
            simp [at', hlt]
          · exact new c hc hco
        rw [this]
        exact hb
theorem steps_hom {n m : Nat} {w : Nat → Nat} {bk : List Dep} {T T' U : Store} {h : Int → Int} (ok : ∀ d ∈ bk, DepOk n w d) (wf : WF n w T) (wu : WF n w U) (su : ∀ d ∈ bk, Sat w U d) (fx : Fixes h) (hm : Hom h T U)
    (s : Steps w bk m T T') : ∃ h', Fixes h' ∧ Hom h' T' U := by
  induction s with
  | zero => exact ⟨h, fx, hm⟩
  | succ p s ih =>
    obtain ⟨h', f', m'⟩ := ih wf hm
    exact step_hom ok (steps_wf ok wf p) wu su f' m' s
/-- below a store that keeps the book nothing clashes -/
theorem no_clash {n : Nat} {w : Nat → Nat} {bk : List Dep} {T U : Store} {h : Int → Int} (ok : ∀ d ∈ bk, DepOk n w d) (wf : WF n w T) (su : ∀ d ∈ bk, Sat w U d) (fx : Fixes h) (hm : Hom h T U) : ¬ Clash bk T := by
  rintro ⟨t, l, r, x, y, c, hd, hx, hy, hl, hc, hne, p1, p2⟩
  have s := su _ hd
  have k := ok _ hd
  have e1 := (wf _ _ hx).2
  have e2 := (wf _ _ hy).2
  have q2 := s _ _ (hm _ _ hx) (hm _ _ hy) (by
    rw [picks_map h x l fun c hc => by rw [e1]; exact k.2.1 c hc, picks_map h y l fun c hc => by rw [e2]; exact k.2.1 c hc, hl])
  rw [picks_map h x r fun c hc => by rw [e1]; exact k.2.2 c hc, picks_map h y r fun c hc => by rw [e2]; exact k.2.2 c hc] at q2
  have z : ∀ l : List Nat, c ∈ l → (picks x l).map h = (picks y l).map h → h (at' x c) = h (at' y c) := by
    intro l
    induction l with
    | nil => intro z; cases z
    | cons d r ih =>
      intro hc e
      simp only [picks, List.map_cons, List.cons.injEq] at e
      rcases List.mem_cons.mp hc with rfl | hc
      · exact e.1
      · exact ih hc e.2
  have q3 := z r hc q2
  rw [fx _ p1, fx _ p2] at q3
  exact hne q3
/-- what a store becomes: each row goes somewhere -/
theorem steps_fwd {m : Nat} {w : Nat → Nat} {bk : List Dep} {T T' : Store} (s : Steps w bk m T T') : ∃ h, Fixes h ∧ Hom h T T' := by
  induction s with
  | zero => exact ⟨id, fun _ _ => rfl, fun t r h => by rw [List.map_id]; exact h⟩
  | succ p s ih =>
    obtain ⟨h, fx, hm⟩ := ih
    cases s with
    | @eq t l r x y c a b hd hx hy hl hc hab hlt hneg =>
      refine ⟨fun v => sub a b (h v), fun v hv => ?_, fun t r hr => ⟨_, hm _ _ hr, by simp [subRow]⟩⟩
      show sub a b (h v) = v
      rw [fx v hv]
      unfold sub
      rw [if_neg (by omega)]
    | row => exact ⟨h, fx, fun t r hr => .inl (hm _ _ hr)⟩
    | put => exact ⟨h, fx, fun t r hr => .inl (hm _ _ hr)⟩
theorem Hom.comp {h g : Int → Int} {T U V : Store} (a : Hom h T U) (b : Hom g U V) : Hom (fun v => g (h v)) T V := fun t r hr => by
  have := b _ _ (a _ _ hr)
  rw [List.map_map] at this
  exact this
/-- THE LAW: a chase below another one that came to its end meets no clash, and its known rows are there -/
theorem below {n m m' : Nat} {w : Nat → Nat} {bk bk' : List Dep} {S S' T T' : Store} {h : Int → Int} (ok : ∀ d ∈ bk, DepOk n w d) (ok' : ∀ d ∈ bk', DepOk n w d) (sub : ∀ d ∈ bk, d ∈ bk') (wf : WF n w S) (wf' : WF n w S')
    (fx : Fixes h) (hm : Hom h S S') (s : Steps w bk m S T) (s' : Steps w bk' m' S' T') (sat : ∀ d ∈ bk', Sat w T' d) : ¬ Clash bk T ∧ ∀ t r, T t r → (∀ v ∈ r, 0 ≤ v) → T' t r := by
  obtain ⟨g, fg, hg⟩ := steps_fwd s'
  have wt' := steps_wf ok' wf' s'
  obtain ⟨k, fk, hk⟩ := steps_hom ok wf wt' (fun d hd => sat d (sub d hd)) (fun v hv => by rw [fx v hv, fg v hv]) (hm.comp hg) s
  refine ⟨no_clash ok (steps_wf ok wf s) (fun d hd => sat d (sub d hd)) fk hk, fun t r hr hv => ?_⟩
  have := hk t r hr
  have e : r.map k = r := by
    have : r.map k = r.map id := List.map_congr_left fun v h => fk v (hv v h)
    rw [this, List.map_id]
  rwa [e] at this
end Nor
end
section
/-! How many steps a chase takes, at most. -/
namespace Nor
open Classical

/-! ### lists -/
def prod {α : Type} : List (List α) → List (List α)
  | [] => [[]]
  | xs :: r => xs.flatMap fun x => (prod r).map (x :: ·)
theorem length_flat {α β : Type} (f : α → List β) (k : Nat) : ∀ l : List α, (∀ x ∈ l, (f x).length = k) → (l.flatMap f).length = l.length * k
  | [], _ => by simp
  | x :: l, h => by
    rw [List.flatMap_cons, List.length_append, h x List.mem_cons_self, length_flat f k l fun y hy => h y (List.mem_cons_of_mem _ hy), List.length_cons, Nat.succ_mul, Nat.add_comm]
theorem length_prod {α : Type} (n : Nat) : ∀ xss : List (List α), (∀ xs ∈ xss, xs.length = n) → (prod xss).length = n ^ xss.length
  | [], _ => rfl
  | xs :: r, h => by
    have ih := length_prod n r fun y hy => h y (List.mem_cons_of_mem _ hy)
    unfold prod
    rw [length_flat _ (n ^ r.length) _ fun x _ => by rw [List.length_map, ih], h xs List.mem_cons_self, List.length_cons, Nat.pow_succ, Nat.mul_comm]
theorem mem_prod {α : Type} : ∀ {xss : List (List α)} {r : List α}, r ∈ prod xss ↔ r.length = xss.length ∧ ∀ i (h : i < r.length) (h' : i < xss.length), r[i] ∈ xss[i]
  | [], r => by
    unfold prod
    constructor
    · intro h
      have e : r = [] := by simpa using h
      subst e
      exact ⟨rfl, fun i h => absurd h (Nat.not_lt_zero _)⟩
    · rintro ⟨h, _⟩
      have e : r = [] := List.length_eq_zero_iff.mp h
      simp [e]
  | xs :: xss, r => by
    unfold prod
    simp only [List.mem_flatMap, List.mem_map]
    constructor
    · rintro ⟨x, hx, r', hr', rfl⟩
      obtain ⟨h1, h2⟩ := mem_prod.mp hr'
      refine ⟨by simp [h1], fun i h h' => ?_⟩
      cases i with
      | zero => simpa using hx
      | succ i => simpa using h2 i (by simpa using h) (by simpa using h')
    · rintro ⟨h1, h2⟩
      cases r with
      | nil => cases h1
      | cons x r =>
        refine ⟨x, h2 0 (Nat.zero_lt_succ _) (Nat.zero_lt_succ _), r, mem_prod.mpr ⟨by simpa using h1, fun i h h' => ?_⟩, rfl⟩
        have := h2 (i + 1) (by simpa using h) (by simpa using h')
        simpa using this
theorem prod_map {α β : Type} (f : α → β) : ∀ xss : List (List α), prod (xss.map (List.map f)) = (prod xss).map (List.map f)
  | [] => rfl
  | xs :: r => by
    simp only [List.map_cons, prod, prod_map f r]
    rw [List.flatMap_map, List.map_flatMap]
    congr 1
    funext x
    simp [List.map_map, Function.comp_def]
theorem sublist_flat {α β : Type} {f g : α → List β} : ∀ {l m : List α}, l.Sublist m → (∀ x, (f x).Sublist (g x)) → (l.flatMap f).Sublist (m.flatMap g)
  | _, _, .slnil, _ => List.Sublist.refl _
  | _, _, .cons a s, h => by
    rw [List.flatMap_cons]
    exact (sublist_flat s h).trans (List.sublist_append_right _ _)
  | _, _, .cons_cons a s, h => by
    rw [List.flatMap_cons, List.flatMap_cons]
    exact (h a).append (sublist_flat s h)
/-- the columns, each grown -/
theorem sublist_prod {α γ : Type} (f g : γ → List α) (h : ∀ c, (f c).Sublist (g c)) : ∀ cs : List γ, (prod (cs.map f)).Sublist (prod (cs.map g))
  | [] => List.Sublist.refl _
  | c :: cs => by
    simp only [List.map_cons, prod]
    exact sublist_flat (h c) fun x => (sublist_prod f g h cs).map _

noncomputable def cnt {α : Type} (p : α → Prop) (l : List α) : Nat := l.countP fun x => decide (p x)
theorem cnt_le {α : Type} (p : α → Prop) (l : List α) : cnt p l ≤ l.length := List.countP_le_length
theorem cnt_sub {α : Type} {p : α → Prop} {l m : List α} (s : l.Sublist m) : cnt p l ≤ cnt p m := s.countP_le
theorem cnt_cons {α : Type} (p : α → Prop) (x : α) (l : List α) : cnt p (x :: l) = cnt p l + if p x then 1 else 0 := by
  unfold cnt
  rw [List.countP_cons]
  simp
theorem cnt_mono {α β : Type} {p : α → Prop} {q : β → Prop} (f : α → β) : ∀ {l : List α}, (∀ x ∈ l, p x → q (f x)) → cnt p l ≤ cnt q (l.map f)
  | [], _ => Nat.le_refl _
  | x :: l, h => by
    have ih := cnt_mono f (l := l) fun y hy => h y (List.mem_cons_of_mem _ hy)
    rw [List.map_cons, cnt_cons, cnt_cons]
    have := h x List.mem_cons_self
    by_cases a : p x
    · rw [if_pos a, if_pos (this a)]; omega
    · rw [if_neg a]; split <;> omega
theorem cnt_mono' {α : Type} {p q : α → Prop} {l : List α} (h : ∀ x ∈ l, p x → q x) : cnt p l ≤ cnt q l := by
  have := cnt_mono (p := p) (q := q) (id : α → α) (l := l) h
  rwa [List.map_id] at this
theorem cnt_lt {α : Type} {p q : α → Prop} : ∀ {l : List α} {x : α}, x ∈ l → ¬ p x → q x → (∀ x ∈ l, p x → q x) → cnt p l + 1 ≤ cnt q l
  | y :: l, x, hx, np, hq, h => by
    rw [cnt_cons, cnt_cons]
    have m := cnt_mono' (p := p) (q := q) (l := l) fun z hz => h z (List.mem_cons_of_mem _ hz)
    by_cases e : x = y
    · subst e
      rw [if_neg np, if_pos hq]; omega
    · have hx' : x ∈ l := by
        rcases List.mem_cons.mp hx with z | z
        · exact absurd z e
        · exact z
      have ih := cnt_lt hx' np hq fun z hz => h z (List.mem_cons_of_mem _ hz)
      have := h y List.mem_cons_self
      by_cases a : p y
      · rw [if_pos a, if_pos (this a)]; omega
      · rw [if_neg a]; split <;> omega

/-- a list without doubles within another one is not longer -/
theorem nodup_le {α : Type} : ∀ {l m : List α}, l.Nodup → (∀ x ∈ l, x ∈ m) → l.length ≤ m.length
  | [], _, _, _ => Nat.zero_le _
  | x :: l, m, hn, h => by
    have hx := h x List.mem_cons_self
    obtain ⟨a, b, rfl⟩ := List.append_of_mem hx
    have hn' := List.nodup_cons.mp hn
    have ih : l.length ≤ (a ++ b).length := nodup_le hn'.2 fun y hy => by
      have := h y (List.mem_cons_of_mem _ hy)
      have ne : y ≠ x := fun e => hn'.1 (e ▸ hy)
      simp only [List.mem_append, List.mem_cons] at this ⊢
      rcases this with z | z | z
      · exact .inl z
      · exact absurd z ne
      · exact .inr z
    simp only [List.length_append, List.length_cons] at ih ⊢
    omega
/-- the items without doubles -/
noncomputable def dd : List Int → List Int
  | [] => []
  | x :: l => if x ∈ dd l then dd l else x :: dd l
theorem mem_dd {x : Int} : ∀ {l : List Int}, x ∈ dd l ↔ x ∈ l
  | [] => Iff.rfl
  | y :: l => by
    unfold dd
    have ih := @mem_dd x l
    have ihy := @mem_dd y l
    split
    · rename_i h
      rw [ih, List.mem_cons]
      constructor
      · exact .inr
      · rintro (rfl | h')
        · exact ihy.mp h
        · exact h'
    · rw [List.mem_cons, List.mem_cons, ih]
theorem dd_nodup : ∀ l : List Int, (dd l).Nodup
  | [] => List.nodup_nil
  | x :: l => by
    unfold dd
    split
    · exact dd_nodup l
    · rename_i h
      exact List.nodup_cons.mpr ⟨h, dd_nodup l⟩
theorem dd_le (l : List Int) : (dd l).length ≤ l.length := nodup_le (dd_nodup l) fun _ h => mem_dd.mp h
theorem dd_app {l' l m : List Int} (h : ∀ x ∈ l', x ∈ l ∨ x ∈ m) : (dd l').length ≤ (dd l).length + m.length := by
  rw [← List.length_append]
  refine nodup_le (dd_nodup _) fun x hx => ?_
  rw [List.mem_append, mem_dd]
  exact h x (mem_dd.mp hx)
theorem dd_less {l' l : List Int} {a : Int} (ha : a ∈ l) (h : ∀ x ∈ l', x ∈ l ∧ x ≠ a) : (dd l').length + 1 ≤ (dd l).length := by
  have : (a :: dd l').length ≤ (dd l).length := nodup_le (List.nodup_cons.mpr ⟨fun z => (h a (mem_dd.mp z)).2 rfl, dd_nodup _⟩) fun x hx => by
    rw [mem_dd]
    rcases List.mem_cons.mp hx with rfl | hx
    · exact ha
    · exact (h x (mem_dd.mp hx)).1
  simpa using this
theorem sum_mono {α : Type} {f g : α → Nat} : ∀ {l : List α}, (∀ x ∈ l, f x ≤ g x) → (l.map f).sum ≤ (l.map g).sum
  | [], _ => Nat.le_refl _
  | x :: l, h => by
    have ih := sum_mono (l := l) fun y hy => h y (List.mem_cons_of_mem _ hy)
    have := h x List.mem_cons_self
    simp only [List.map_cons, List.sum_cons]
    omega
theorem sum_lt {α : Type} {f g : α → Nat} : ∀ {l : List α} {x : α}, x ∈ l → f x + 1 ≤ g x → (∀ x ∈ l, f x ≤ g x) → (l.map f).sum + 1 ≤ (l.map g).sum
  | y :: l, x, hx, hlt, h => by
    have m := sum_mono (l := l) fun z hz => h z (List.mem_cons_of_mem _ hz)
    have hy := h y List.mem_cons_self
    simp only [List.map_cons, List.sum_cons]
    by_cases e : x = y
    · subst e; omega
    · have hx' : x ∈ l := by
        rcases List.mem_cons.mp hx with z | z
        · exact absurd z e
        · exact z
      have ih := sum_lt hx' hlt fun z hz => h z (List.mem_cons_of_mem _ hz)
      omega
theorem sum_const {α : Type} {f : α → Nat} {k : Nat} : ∀ {l : List α}, (∀ x ∈ l, f x ≤ k) → (l.map f).sum ≤ l.length * k
  | [], _ => by simp
  | x :: l, h => by
    have ih := sum_const (l := l) fun y hy => h y (List.mem_cons_of_mem _ hy)
    have := h x List.mem_cons_self
    simp only [List.map_cons, List.sum_cons, List.length_cons, Nat.succ_mul]
    omega

/-! ### the rows that may come to be -/
/-- a table of a many-valued or join dependency -/
def Dep.joined (t : Nat) : Dep → Bool
  | .deals u _ _ => u == t
  | .joins u _ => u == t
  | _ => false
def joinedT (bk : List Dep) (t : Nat) : Bool := bk.any (Dep.joined t)
def combos (j : Bool) (w : Nat) (base : List Row) : List Row := if j then prod ((List.range w).map fun c => base.map fun r => at' r c) else base
theorem mem_combos_j {w : Nat} {base : List Row} {r : Row} : r ∈ combos true w base ↔ r.length = w ∧ ∀ c, c < w → ∃ b ∈ base, at' b c = at' r c := by
  unfold combos
  rw [if_pos rfl, mem_prod]
  simp only [List.length_map, List.length_range, List.getElem_map, List.getElem_range, List.mem_map]
  constructor
  · rintro ⟨h1, h2⟩
    refine ⟨h1, fun c hc => ?_⟩
    obtain ⟨b, hb, e⟩ := h2 c (by omega) hc
    refine ⟨b, hb, e.trans ?_⟩
    simp [at', h1, hc]
  · rintro ⟨h1, h2⟩
    refine ⟨h1, fun i h h' => ?_⟩
    obtain ⟨b, hb, e⟩ := h2 i h'
    refine ⟨b, hb, e.trans ?_⟩
    simp [at', h]
theorem combos_base {j : Bool} {w : Nat} {base : List Row} {r : Row} (h : r ∈ base) (hl : r.length = w) : r ∈ combos j w base := by
  cases j with
  | false => exact h
  | true => exact mem_combos_j.mpr ⟨hl, fun c _ => ⟨r, h, rfl⟩⟩
theorem length_combos {j : Bool} {w : Nat} {base : List Row} : (combos j w base).length = if j then base.length ^ w else base.length := by
  unfold combos
  split
  · rw [length_prod base.length]
    · simp
    · intro xs hx
      obtain ⟨c, _, rfl⟩ := List.mem_map.mp hx
      simp
  · rfl
theorem combos_sub {j : Bool} {w : Nat} {base more : List Row} (s : base.Sublist more) : (combos j w base).Sublist (combos j w more) := by
  unfold combos
  split
  · exact sublist_prod _ _ (fun c => s.map _) _
  · exact s
theorem combos_map {j : Bool} {w : Nat} {base : List Row} (f : Int → Int) (hl : ∀ r ∈ base, r.length = w) : combos j w (base.map (List.map f)) = (combos j w base).map (List.map f) := by
  unfold combos
  split
  · rw [← prod_map]
    congr 1
    rw [List.map_map]
    refine List.map_congr_left fun c hc => ?_
    show List.map _ (List.map _ base) = List.map f (List.map _ base)
    rw [List.map_map, List.map_map]
    refine List.map_congr_left fun r hr => ?_
    show at' (r.map f) c = f (at' r c)
    exact at_map f r c (by rw [hl r hr]; exact List.mem_range.mp hc)
  · rfl
theorem combos_vals {j : Bool} {w : Nat} {base : List Row} (hl : ∀ r ∈ base, r.length = w) {r : Row} (hr : r ∈ combos j w base) {v : Int} (hv : v ∈ r) : ∃ b ∈ base, v ∈ b := by
  cases j with
  | false => exact ⟨r, hr, hv⟩
  | true =>
    obtain ⟨h1, h2⟩ := mem_combos_j.mp hr
    obtain ⟨i, hi, rfl⟩ := List.getElem_of_mem hv
    obtain ⟨b, hb, e⟩ := h2 i (by omega)
    refine ⟨b, hb, ?_⟩
    have hi' : i < b.length := by rw [hl b hb]; omega
    have e2 : at' r i = r[i] := by simp [at', hi]
    rw [← e2, ← e]
    simp [at', hi']

/-! ### the measure -/
section
variable (n : Nat) (w : Nat → Nat) (bk : List Dep)
/-- the rows of table t that may come to be -/
def cmb (base : Nat → List Row) (t : Nat) : List Row := combos (joinedT bk t) (w t) (base t)
def Matched (T : Store) (cs : List Nat) (o : Nat) (os : List Nat) (x : Row) : Prop := ∃ y, T o y ∧ picks y os = picks x cs
noncomputable def mc (T : Store) (base : Nat → List Row) : Dep → Nat
  | .within t cs o os => cnt (Matched T cs o os) (cmb w bk base t)
  | _ => 0
def Dep.into (t : Nat) : Dep → Bool
  | .within _ _ o _ => o == t
  | _ => false
def cells (base : Nat → List Row) : List Int := (List.range n).flatMap fun t => (base t).flatten
noncomputable def phi (T : Store) (base : Nat → List Row) : Nat :=
  (bk.map (mc w bk T base)).sum + ((List.range n).map fun t => cnt (T t) (cmb w bk base t)).sum
structure Gh (r0 : Nat → Nat) (k : Nat) (T : Store) (base : Nat → List Row) : Prop where
  wide : ∀ t r, r ∈ base t → t < n ∧ r.length = w t
  inn : ∀ t r, T t r → r ∈ cmb w bk base t
  few : ∀ t, (base t).length ≤ r0 t + (bk.map fun d => if d.into t then mc w bk T base d else 0).sum
  ph : k + (dd (cells n base)).length ≤ phi n w bk T base + (cells n base).length
end
section
variable {n : Nat} {w : Nat → Nat} {bk : List Dep} {r0 : Nat → Nat} {k : Nat} {T T' : Store} {base : Nat → List Row}
theorem mem_cells {v : Int} : v ∈ cells n base ↔ ∃ t, t < n ∧ ∃ r ∈ base t, v ∈ r := by
  unfold cells
  simp only [List.mem_flatMap, List.mem_range, List.mem_flatten]
theorem joined_of {d : Dep} {t : Nat} {ps : List (List Nat)} (hd : d ∈ bk) (hp : d.parts w = some (t, ps)) : joinedT bk t = true := by
  refine List.any_eq_true.mpr ⟨d, hd, ?_⟩
  cases d with
  | settles => cases hp
  | within => cases hp
  | joins t' ps' => cases hp; simp [Dep.joined]
  | deals t' l r => cases hp; simp [Dep.joined]

theorem gh_step (ok : ∀ d ∈ bk, DepOk n w d) (wf : WF n w T) (g : Gh n w bk r0 k T base) (s : Step w bk T T') : ∃ base', Gh n w bk r0 (k + 1) T' base' := by
  cases s with
  | @eq t l r x y c a b hd hx hy hl hc hab hlt hneg =>
    have ex := wf _ _ hx
    have ey := wf _ _ hy
    have hcw := (ok _ hd).2.2 c hc
    have val : ∀ z, T t z → at' z c ∈ cells n base := fun z hz => by
      have e := wf _ _ hz
      obtain ⟨q, hq, hv⟩ := combos_vals (j := joinedT bk t) (w := w t) (base := base t) (fun r h => (g.wide t r h).2) (g.inn t z hz) (v := at' z c) (by
        have : c < z.length := by rw [e.2]; exact hcw
        simp [at', this])
      exact mem_cells.mpr ⟨t, e.1, q, hq, hv⟩
    have ha : a ∈ cells n base := by
      rcases hab with ⟨h1, h2⟩ | ⟨h1, h2⟩
      · exact h1 ▸ val x hx
      · exact h2 ▸ val y hy
    have hb : b ∈ cells n base := by
      rcases hab with ⟨h1, h2⟩ | ⟨h1, h2⟩
      · exact h2 ▸ val y hy
      · exact h1 ▸ val x hx
    have cm : ∀ t, cmb w bk (fun u => (base u).map (subRow a b)) t = (cmb w bk base t).map (subRow a b) := fun t => combos_map (sub a b) fun r h => (g.wide t r h).2
    have m1 : ∀ d ∈ bk, mc w bk T base d ≤ mc w bk (subStore a b T) (fun u => (base u).map (subRow a b)) d := fun d hdm => by
      cases d with
      | within t cs o os =>
        show cnt _ _ ≤ cnt _ (cmb w bk _ t)
        rw [cm]
        refine cnt_mono (subRow a b) fun z hz ⟨y, hy, e⟩ => ⟨subRow a b y, ⟨y, hy, rfl⟩, ?_⟩
        have k := ok _ hdm
        have lz : z.length = w t := by
          have hz' : z ∈ combos (joinedT bk t) (w t) (base t) := hz
          cases hj : joinedT bk t with
          | false => rw [hj] at hz'; exact (g.wide t z hz').2
          | true => rw [hj] at hz'; exact (mem_combos_j.mp hz').1
        unfold subRow
        rw [picks_map _ y os fun c hc => by rw [(wf _ _ hy).2]; exact k.2.2.2.2.2.2 c hc, picks_map _ z cs fun c hc => by rw [lz]; exact k.2.2.2.2.2.1 c hc, e]
      | settles => exact Nat.le_refl _
      | deals => exact Nat.le_refl _
      | joins => exact Nat.le_refl _
    have m2 : ∀ t ∈ List.range n, cnt (T t) (cmb w bk base t) ≤ cnt ((subStore a b T) t) (cmb w bk (fun u => (base u).map (subRow a b)) t) := fun t _ => by
      rw [cm]
      exact cnt_mono (subRow a b) fun z _ hz => ⟨z, hz, rfl⟩
    have lc : (cells n fun u => (base u).map (subRow a b)).length = (cells n base).length := by
      unfold cells
      rw [List.length_flatMap, List.length_flatMap]
      congr 1
      refine List.map_congr_left fun t _ => ?_
      rw [List.length_flatten, List.length_flatten, List.map_map]
      congr 1
      exact List.map_congr_left fun r _ => length_subRow a b r
    refine ⟨fun u => (base u).map (subRow a b), fun t r h => ?_, ?_, fun t => ?_, ?_⟩
    · obtain ⟨r0, h0, rfl⟩ := List.mem_map.mp h
      rw [length_subRow]
      exact g.wide t r0 h0
    · rintro t r ⟨r0, h0, rfl⟩
      rw [cm]
      exact List.mem_map.mpr ⟨r0, g.inn t r0 h0, rfl⟩
    · rw [List.length_map]
      refine Nat.le_trans (g.few t) (Nat.add_le_add_left (sum_mono fun d hd => ?_) _)
      split
      · exact m1 d hd
      · exact Nat.le_refl _
    · have p := g.ph
      have s1 := sum_mono m1
      have s2 := sum_mono m2
      have dl := dd_less (l' := cells n fun u => (base u).map (subRow a b)) ha fun v hv => by
        obtain ⟨t, ht, r, hr, hv⟩ := mem_cells.mp hv
        obtain ⟨r0, h0, rfl⟩ := List.mem_map.mp hr
        obtain ⟨v0, hv0, rfl⟩ := List.mem_map.mp hv
        unfold sub
        split
        · exact ⟨hb, by omega⟩
        · rename_i h; exact ⟨mem_cells.mpr ⟨t, ht, r0, h0, hv0⟩, h⟩
      unfold phi at p ⊢
      omega
  | @row d t ps r hd hp hr hn hj =>
    have k0 := parts_ok (ok _ hd) hp
    have hin : r ∈ cmb w bk base t := by
      unfold cmb
      rw [joined_of hd hp]
      refine mem_combos_j.mpr ⟨hr, fun c hc => ?_⟩
      obtain ⟨p, hpp, hcp⟩ := k0.2.2.2 c hc
      obtain ⟨z, hz, e⟩ := hj p hpp
      have hz' := g.inn t z hz
      unfold cmb at hz'
      rw [joined_of hd hp] at hz'
      obtain ⟨_, q⟩ := mem_combos_j.mp hz'
      obtain ⟨b, hb, e2⟩ := q c hc
      refine ⟨b, hb, e2.trans ?_⟩
      have z : ∀ p : List Nat, c ∈ p → picks z p = picks r p → at' z c = at' r c := by
        intro p
        induction p with
        | nil => intro z; cases z
        | cons d p ih =>
          intro hc e
          simp only [picks, List.map_cons, List.cons.injEq] at e
          rcases List.mem_cons.mp hc with rfl | hc
          · exact e.1
          · exact ih hc e.2
      exact z p hcp e
    have m1 : ∀ d ∈ bk, mc w bk T base d ≤ mc w bk (addRow T t r) base d := fun d hdm => by
      cases d with
      | within t cs o os => exact cnt_mono' fun z hz ⟨y, hy, e⟩ => ⟨y, .inl hy, e⟩
      | settles => exact Nat.le_refl _
      | deals => exact Nat.le_refl _
      | joins => exact Nat.le_refl _
    refine ⟨base, g.wide, ?_, fun u => ?_, ?_⟩
    · rintro u r' (h | ⟨rfl, rfl⟩)
      · exact g.inn u r' h
      · exact hin
    · refine Nat.le_trans (g.few u) (Nat.add_le_add_left (sum_mono fun d hd => ?_) _)
      split
      · exact m1 d hd
      · exact Nat.le_refl _
    · have p := g.ph
      have s1 := sum_mono m1
      have s2 : ((List.range n).map fun u => cnt (T u) (cmb w bk base u)).sum + 1 ≤ ((List.range n).map fun u => cnt ((addRow T t r) u) (cmb w bk base u)).sum :=
        sum_lt (List.mem_range.mpr k0.1) (cnt_lt hin hn (.inr ⟨rfl, rfl⟩) fun z _ h => .inl h) fun u _ => cnt_mono' fun z _ h => .inl h
      unfold phi at p ⊢
      omega
  | @put t o cs os x r hd hx hn hr hmt hneg hfr hdist =>
    have k0 := ok _ hd
    generalize hbase : (fun u => if u = o then base u ++ [r] else base u) = base'
    have bs : ∀ u, (base u).Sublist (base' u) := fun u => by
      rw [← hbase]
      show (base u).Sublist (if u = o then base u ++ [r] else base u)
      split
      · exact List.sublist_append_left _ _
      · exact List.Sublist.refl _
    have cm : ∀ u, (cmb w bk base u).Sublist (cmb w bk base' u) := fun u => combos_sub (bs u)
    have b0 : ∀ u, u ≠ o → base' u = base u := fun u h => by rw [← hbase]; exact if_neg h
    have b1 : base' o = base o ++ [r] := by rw [← hbase]; exact if_pos rfl
    have m1 : ∀ d ∈ bk, mc w bk T base d ≤ mc w bk (addRow T o r) base' d := fun d hdm => by
      cases d with
      | within t cs o os => exact Nat.le_trans (cnt_mono' fun z hz ⟨y, hy, e⟩ => ⟨y, .inl hy, e⟩) (cnt_sub (cm t))
      | settles => exact Nat.le_refl _
      | deals => exact Nat.le_refl _
      | joins => exact Nat.le_refl _
    have m2 : mc w bk T base (.within t cs o os) + 1 ≤ mc w bk (addRow T o r) base' (.within t cs o os) := by
      refine Nat.le_trans (cnt_lt (g.inn t x hx) (q := Matched (addRow T o r) cs o os) ?_ ⟨r, .inr ⟨rfl, rfl⟩, hmt⟩ fun z hz ⟨y, hy, e⟩ => ⟨y, .inl hy, e⟩) (cnt_sub (cm t))
      rintro ⟨y, hy, e⟩
      exact hn y hy e
    refine ⟨base', fun u r' h => ?_, ?_, fun u => ?_, ?_⟩
    · by_cases e : u = o
      · subst e
        rw [b1] at h
        rcases List.mem_append.mp h with h | h
        · exact g.wide u r' h
        · have e : r' = r := by simpa using h
          subst e
          exact ⟨k0.2.1, hr⟩
      · rw [b0 u e] at h; exact g.wide u r' h
    · rintro u r' (h | ⟨rfl, rfl⟩)
      · exact (cm u).subset (g.inn u r' h)
      · exact combos_base (by rw [b1]; simp) hr
    · by_cases e : u = o
      · subst e
        rw [b1, List.length_append]
        have f := g.few u
        have : (bk.map fun d => if d.into u then mc w bk T base d else 0).sum + 1 ≤ (bk.map fun d => if d.into u then mc w bk (addRow T u r) base' d else 0).sum := by
          refine sum_lt hd ?_ fun d hd => ?_
          · have e1 : Dep.into u (.within t cs u os) = true := by simp [Dep.into]
            rw [if_pos e1, if_pos e1]; exact m2
          · split
            · exact m1 d hd
            · exact Nat.le_refl _
        simp only [List.length_cons, List.length_nil]
        omega
      · rw [b0 u e]
        refine Nat.le_trans (g.few u) (Nat.add_le_add_left (sum_mono fun d hd => ?_) _)
        split
        · exact m1 d hd
        · exact Nat.le_refl _
    · have p := g.ph
      have s1 : (bk.map (mc w bk T base)).sum + 1 ≤ (bk.map (mc w bk (addRow T o r) base')).sum := sum_lt hd m2 m1
      have s2 : ((List.range n).map fun u => cnt (T u) (cmb w bk base u)).sum ≤ ((List.range n).map fun u => cnt ((addRow T o r) u) (cmb w bk base' u)).sum :=
        sum_mono fun u _ => Nat.le_trans (cnt_mono' fun z _ h => .inl h) (cnt_sub (cm u))
      have hc : (cells n base').length = (cells n base).length + r.length := by
        unfold cells
        rw [List.length_flatMap, List.length_flatMap]
        have z : ∀ l : List Nat, l.Nodup → (l.map fun u => ((base' u).flatten).length).sum = (l.map fun u => ((base u).flatten).length).sum + if o ∈ l then r.length else 0 := by
          intro l
          induction l with
          | nil => intro _; rfl
          | cons u l ih =>
            intro hnd
            have hnd := List.nodup_cons.mp hnd
            have ih := ih hnd.2
            simp only [List.map_cons, List.sum_cons, List.mem_cons]
            by_cases e : u = o
            · subst e
              rw [if_neg hnd.1] at ih
              rw [if_pos (.inl rfl), b1, List.flatten_append, List.length_append, ih]
              simp
              omega
            · rw [b0 u e, ih]
              have : (o = u ∨ o ∈ l) ↔ o ∈ l := ⟨fun h => h.resolve_left fun z => e z.symm, .inr⟩
              simp only [this]
              omega
        rw [z _ List.nodup_range, if_pos (List.mem_range.mpr k0.2.1)]
      have hdd : (dd (cells n base')).length ≤ (dd (cells n base)).length + r.length := dd_app fun v hv => by
        obtain ⟨u, hu, r', hr', hv⟩ := mem_cells.mp hv
        by_cases e : u = o
        · subst e
          rw [b1] at hr'
          rcases List.mem_append.mp hr' with h | h
          · exact .inl (mem_cells.mpr ⟨u, hu, r', h, hv⟩)
          · have e : r' = r := by simpa using h
            subst e
            exact .inr hv
        · rw [b0 u e] at hr'
          exact .inl (mem_cells.mpr ⟨u, hu, r', hr', hv⟩)
      unfold phi at p ⊢
      omega
theorem gh_steps {T0 : Store} {base0 : Nat → List Row} (ok : ∀ d ∈ bk, DepOk n w d) (wf : WF n w T0) (g : Gh n w bk r0 0 T0 base0) (s : Steps w bk k T0 T) : ∃ base', Gh n w bk r0 k T base' := by
  induction s with
  | zero => exact ⟨_, g⟩
  | succ p s ih =>
    obtain ⟨b, gb⟩ := ih wf g
    exact gh_step ok (steps_wf ok wf p) gb s
end

/-- as many rows as a table may come to -/
structure Tame (n : Nat) (w : Nat → Nat) (bk : List Dep) (r0 : Nat → Nat) (B F : Nat → Nat) (rk : Nat → Nat) : Prop where
  up : ∀ t cs o os, Dep.within t cs o os ∈ bk → rk t < rk o
  base : ∀ t, t < n → r0 t + (bk.map fun d => match d with | .within s _ o _ => if o = t then F s else 0 | _ => 0).sum ≤ B t
  full : ∀ t, t < n → (if joinedT bk t then (B t) ^ (w t) else B t) ≤ F t
  most : ∀ t, t < n → F t ≤ 64
  low : ∀ t, t < n → 1 ≤ w t ∧ w t ≤ 4
theorem pow_ge {b w : Nat} (h : 1 ≤ w) : b ≤ b ^ w := by
  cases b with
  | zero => exact Nat.zero_le _
  | succ b =>
    have := Nat.pow_le_pow_right (n := b + 1) (Nat.succ_pos _) h
    simpa using this
section
variable {n : Nat} {w : Nat → Nat} {bk : List Dep} {r0 B F rk : Nat → Nat} {k : Nat} {T : Store} {base : Nat → List Row}
theorem base_le (ok : ∀ d ∈ bk, DepOk n w d) (tm : Tame n w bk r0 B F rk) (g : Gh n w bk r0 k T base) : ∀ m t, rk t ≤ m → t < n → (base t).length ≤ B t ∧ (cmb w bk base t).length ≤ F t := by
  intro m
  induction m using Nat.strongRecOn with
  | ind m ih =>
    intro t hm ht
    have h1 : (base t).length ≤ B t := by
      refine Nat.le_trans (g.few t) (Nat.le_trans (Nat.add_le_add_left (sum_mono fun d hd => ?_) _) (tm.base t ht))
      cases d with
      | within s cs o os =>
        show (if (o == t) = true then _ else 0) ≤ (if o = t then F s else 0)
        by_cases e : o = t
        · subst e
          rw [if_pos rfl, if_pos (by simp)]
          have hlt := tm.up _ _ _ _ hd
          exact Nat.le_trans (cnt_le _ _) (ih (rk s) (by omega) s (Nat.le_refl _) (ok _ hd).1).2
        · rw [if_neg (by simpa using e), if_neg e]
          exact Nat.le_refl _
      | settles => exact Nat.le_refl _
      | deals => exact Nat.le_refl _
      | joins => exact Nat.le_refl _
    refine ⟨h1, ?_⟩
    unfold cmb
    rw [length_combos]
    refine Nat.le_trans ?_ (tm.full t ht)
    split
    · exact Nat.pow_le_pow_left h1 _
    · exact h1
theorem gh_rows (ok : ∀ d ∈ bk, DepOk n w d) (tm : Tame n w bk r0 B F rk) (g : Gh n w bk r0 k T base) {t : Nat} (ht : t < n) {l : List Row} (hn : l.Nodup) (hl : ∀ r ∈ l, T t r) : l.length ≤ 64 :=
  Nat.le_trans (nodup_le hn fun r hr => g.inn t r (hl r hr)) (Nat.le_trans (base_le ok tm g _ t (Nat.le_refl _) ht).2 (tm.most t ht))
theorem gh_count (ok : ∀ d ∈ bk, DepOk n w d) (tm : Tame n w bk r0 B F rk) (g : Gh n w bk r0 k T base) : k ≤ bk.length * 64 + n * 64 + n * 256 := by
  have b := fun t ht => base_le ok tm g _ t (Nat.le_refl _) ht
  have p := g.ph
  have s1 : (bk.map (mc w bk T base)).sum ≤ bk.length * 64 := sum_const fun d hd => by
    cases d with
    | within s cs o os => exact Nat.le_trans (cnt_le _ _) (Nat.le_trans (b s (ok _ hd).1).2 (tm.most s (ok _ hd).1))
    | settles => exact Nat.zero_le _
    | deals => exact Nat.zero_le _
    | joins => exact Nat.zero_le _
  have s2 : ((List.range n).map fun t => cnt (T t) (cmb w bk base t)).sum ≤ n * 64 := by
    have := sum_const (f := fun t => cnt (T t) (cmb w bk base t)) (k := 64) (l := List.range n) fun t ht => Nat.le_trans (cnt_le _ _) (Nat.le_trans (b t (List.mem_range.mp ht)).2 (tm.most t (List.mem_range.mp ht)))
    rwa [List.length_range] at this
  have s3 : (cells n base).length ≤ n * 256 := by
    unfold cells
    rw [List.length_flatMap]
    have := sum_const (f := fun t => ((base t).flatten).length) (k := 256) (l := List.range n) fun t ht => by
      have ht := List.mem_range.mp ht
      have hb := (b t ht).1
      have hB : B t ≤ 64 := by
        have f := tm.full t ht
        have m := tm.most t ht
        have l := tm.low t ht
        split at f
        · have := pow_ge (b := B t) l.1; omega
        · omega
      rw [List.length_flatten]
      have : ((base t).map List.length).sum ≤ (base t).length * 4 := sum_const fun r hr => by
        rw [(g.wide t r hr).2]; exact (tm.low t ht).2
      omega
    rwa [List.length_range] at this
  unfold phi at p
  omega
/-- the start -/
theorem gh_start (wf : WF n w T) (hr : ∀ t, (base t).length ≤ r0 t) (hin : ∀ t r, T t r ↔ r ∈ base t) : Gh n w bk r0 0 T base where
  wide := fun t r h => wf t r ((hin t r).mpr h)
  inn := fun t r h => combos_base ((hin t r).mp h) (wf t r h).2
  few := fun t => Nat.le_trans (hr t) (Nat.le_add_right _ _)
  ph := by
    have := dd_le (cells n base)
    omega
end
end Nor
end
section
/-! picked, agree, parts_of. -/
namespace Nor
open PySem L2 L2.NW
/-- columns as values -/
def nV (cs : List Nat) : List V := cs.map fun c : Nat => V.int (c : Int)
/-- a tuple -/
abbrev Tu (H : Hp) (a : Addr) (xs : List V) : Prop := H a = some (.tup xs)
abbrev RowT (H : Hp) (a : Addr) (r : Row) : Prop := H a = some (.tup (r.map V.int))
theorem nV_len (cs : List Nat) : (nV cs).length = cs.length := by simp [nV]
theorem nV_get {cs : List Nat} {i : Nat} {x : V} (h : (nV cs)[i]? = some x) : ∃ c, cs[i]? = some c ∧ x = .int (c : Int) := by
  unfold nV at h
  rw [List.getElem?_map] at h
  cases e : cs[i]? with
  | none => rw [e] at h; cases h
  | some c => rw [e] at h; exact ⟨c, rfl, (Option.some.inj h).symm⟩
theorem nV_ints (cs : List Nat) : nV cs = (cs.map fun c : Nat => (c : Int)).map V.int := by simp [nV]
theorem row_at {r : Row} {c : Nat} (h : c < r.length) : (r.map V.int)[c]? = some (V.int (at' r c)) := by
  simp [at', h]
theorem picks_take {r : Row} {cs : List Nat} {i c : Nat} (h : cs[i]? = some c) : picks r (cs.take (i + 1)) = picks r (cs.take i) ++ [at' r c] := by
  rw [List.take_add_one, h]
  simp [picks]
theorem mte_op {r : R2} {ta tb : TE} : True := trivial
section
variable {P : Program} {w : World} {K : PySem.W.Frag} {mg : Str → Option Value} {base : Heap}
def spPicked (K : PySem.W.Frag) : Sp := fun vs H Q _ => ∃ (a b : Addr) (r : Row) (cs : List Nat), vs = [.ref a, .ref b] ∧ SqT K H a (r.map V.int) ∧ SqT K H b (nV cs) ∧ (∀ c ∈ cs, c < r.length) ∧ cs.length ≤ 1000 ∧
  ∀ p H', H p = none → Fm Non H H' → RowT H' p (picks r cs) → Q (.ref p) H'
theorem scPicked : FnScope ["row", "columns", "column"] ["row", "columns"] (defScope sPicked) := ⟨rfl, rfl, rfl, by decide +kernel, rfl, by decide +kernel, by decide +kernel⟩
theorem ok_picked {f : Addr} {fd : FuncData} (F : Fun K "picked" "picked" sPicked f fd) (mt : mg "tuple" = none) : FnOk P w K mg base CX0 1 f fd ["row", "columns"] (spPicked K) := by
  refine F.ok scPicked (fun vs H Q E h => ?_) (fun cdv A outer s H vs Q E hr h => ?_)
  · obtain ⟨a, b, r, cs, rfl, _⟩ := h
    rfl
  · obtain ⟨a, b, r, cs, rfl, ha, hb, hc, hl, k⟩ := h
    have hu := hu_of hr
    refine ⟨_, pss_one (ps_ret (pe_callTy call_tuple_of rfl mt (by rfl) (pa_cons (pe_lc (own := [("column", 2)]) (g := gName 2) (tt := tYes) rfl scPicked.nd (pi_tup (pv 1)) (blkOk_by (N := ["row", "columns", "column"]) (sc := defScope sPicked) (by decide +kernel)) (fun _ _ _ _ _ => pg_name (i := 2) scPicked.nd rfl (Or.inl rfl)) (fun _ _ _ _ _ => pts_nil) (fun _ _ _ _ _ => pe_ix (r := rIxT K) ix_tup (pv 0) (pv 2) (fun _ _ => rfl))) pa_nil))), ?_⟩
    refine ⟨_, rfl, b, rfl, ⟨_, hb⟩, fun D hD => ?_⟩
    refine lc_acc (walk_tup (K := K) (xs := nV cs)) (S := Non) (fun i acc H' => acc = (picks r (cs.take i)).map V.int) (by rw [nV_len]; omega) hD id (fun x => by rfl) (fun H' f => ?_) (fun i acc H1 H2 e _ => e) rfl ?_ ?_
    · exact f.st hb id
    · rintro i x acc H1 H2 hi f rfl ⟨rfl, hx⟩
      refine ⟨.refl, fun _ _ Qt Qf kt kf => ?_⟩
      obtain ⟨c, hc', rfl⟩ := nV_get hx
      refine ⟨_, rfl, _, rfl, a, _, _, _, rfl, rfl, f.st ha id, atI_nat (row_at (hc c (List.mem_of_getElem? hc'))), kt _ _ .refl ?_⟩
      rw [picks_take hc', List.map_append] <;> rfl
    · rintro acc H1 f hl' hd rfl
      rw [nV_len, List.take_length] at *
      refine ⟨D, _, rfl, .inl ⟨.inl (.inl hd), fun p hp => ?_⟩⟩
      exact k p _ (f.tr p hp) (f.trans (.new hp)) upd_same

/-- a def that the module holds -/
structure Own (K : PySem.W.Frag) (mg : Str → Option Value) (x : Str) (f : Addr) (fd : FuncData) (ps : List Str) : Prop where
  mgf : mg x = some (.ref f)
  kp : PySem.W.keepIn K (.ref f) = true
  bd : Binds K fd ps []
theorem intsRow {K : PySem.W.Frag} {H : Hp} {a : Addr} {ns : List Int} (h : H a = some (.tup (ns.map V.int))) : Dp K H (.ref a) (.tuple (ns.map .int)) := dp_row (SqT.of h)
def spAgree (K : PySem.W.Frag) : Sp := fun vs H Q _ => ∃ (a b c : Addr) (r s : Row) (cs : List Nat), vs = [.ref a, .ref b, .ref c] ∧ SqT K H a (r.map V.int) ∧ SqT K H b (s.map V.int) ∧ SqT K H c (nV cs) ∧ (∀ c ∈ cs, c < r.length) ∧ (∀ c ∈ cs, c < s.length) ∧ cs.length ≤ 1000 ∧
  ∀ H', Fm Non H H' → Q (.bl (decide (picks r cs = picks s cs))) H'
theorem scAgree : FnScope ["one", "other", "columns"] ["one", "other", "columns"] (defScope sAgree) := ⟨rfl, rfl, rfl, by decide +kernel, rfl, by decide +kernel, by decide +kernel⟩
theorem ok_agree {f f1 : Addr} {fd fd1 : FuncData} (F : Fun K "agree" "agree" sAgree f fd) (o1 : Own K mg "picked" f1 fd1 ["row", "columns"]) (G1 : FnOk P w K mg base CX0 1 f1 fd1 ["row", "columns"] (spPicked K)) : FnOk P w K mg base CX0 2 f fd ["one", "other", "columns"] (spAgree K) := by
  refine F.ok scAgree (fun vs H Q E h => ?_) (fun cdv A outer s H vs Q E hr h => ?_)
  · obtain ⟨a, b, c, r, s, cs, rfl, _⟩ := h
    rfl
  · obtain ⟨a, b, c, r, s, cs, rfl, ha, hb, hc, h1, h2, hl, k⟩ := h
    refine ⟨_, pss_one (ps_ret (pe_cmpR (op_eqD hr.units) (pe_call G1 hr rfl o1.mgf o1.kp o1.bd .nil pass0 (pa_cons (pv 0) (pa_cons (pv 2) pa_nil))) (pe_call G1 hr rfl o1.mgf o1.kp o1.bd .nil pass0 (pa_cons (pv 1) (pa_cons (pv 2) pa_nil))) (nomark _))), ?_⟩
    refine ⟨_, rfl, _, rfl, a, c, r, cs, rfl, ha, hc, h1, hl, fun p H1 hp f1 r1 => ?_⟩
    refine ⟨_, rfl, _, rfl, b, c, s, cs, rfl, f1.st hb id, f1.st hc id, h2, hl, fun q H2 hq f2 r2 => ?_⟩
    refine ⟨_, _, intsRow (f2.ob _ _ r1 id), intsRow r2, shaped_row _, shaped_row _, ?_⟩
    rw [eqv_rows]
    exact k H2 (f1.trans f2)
/-! ### dependencies as data -/
/-- a tuple of tuples of columns -/
def PartsAt (H : Hp) (b : Addr) (ps : List (List Nat)) : Prop := ∃ es : List Addr, Tu H b (es.map V.ref) ∧ Paired (fun e p => Tu H e (nV p)) es ps
def DepAt (H : Hp) (a : Addr) : Dep → Prop
  | .settles t l r => ∃ b c, Tu H a [.str "settles", .int (t : Int), .ref b, .ref c] ∧ Tu H b (nV l) ∧ Tu H c (nV r)
  | .deals t l r => ∃ b c, Tu H a [.str "deals", .int (t : Int), .ref b, .ref c] ∧ Tu H b (nV l) ∧ Tu H c (nV r)
  | .joins t ps => ∃ b, Tu H a [.str "joins", .int (t : Int), .ref b] ∧ PartsAt H b ps
  | .within t cs o os => ∃ b c, Tu H a [.str "within", .int (t : Int), .ref b, .int (o : Int), .ref c] ∧ Tu H b (nV cs) ∧ Tu H c (nV os)
theorem PartsAt.tk {H H' : Hp} {b : Addr} {ps : List (List Nat)} (x : PartsAt H b ps) (t : TK H H') : PartsAt H' b ps := let ⟨es, h, p⟩ := x; ⟨es, t _ _ h, paired_map p fun _ _ z => t _ _ z⟩
theorem DepAt.tk {H H' : Hp} {a : Addr} (t : TK H H') : ∀ {d : Dep}, DepAt H a d → DepAt H' a d
  | .settles _ _ _, ⟨b, c, h1, h2, h3⟩ => ⟨b, c, t _ _ h1, t _ _ h2, t _ _ h3⟩
  | .deals _ _ _, ⟨b, c, h1, h2, h3⟩ => ⟨b, c, t _ _ h1, t _ _ h2, t _ _ h3⟩
  | .joins _ _, ⟨b, h1, h2⟩ => ⟨b, t _ _ h1, h2.tk t⟩
  | .within _ _ _ _, ⟨b, c, h1, h2, h3⟩ => ⟨b, c, t _ _ h1, t _ _ h2, t _ _ h3⟩
theorem eqV_int (a b : Int) : eqV (.int a) (.int b) = (a == b) := rfl
theorem inV_cols (c : Nat) (cs : List Nat) : inV (.int (c : Int)) (nV cs) = decide (c ∈ cs) := by
  unfold inV nV
  induction cs with
  | nil => rfl
  | cons d cs ih =>
    simp only [List.map_cons, List.any_cons, ih, eqV_int]
    by_cases h : c = d
    · subst h; simp
    · have : ((d : Int) == (c : Int)) = false := by simp; omega
      rw [this]; simp [h]
theorem flat_cols (cs : List Nat) : (nV cs).all flatV = true := by simp [nV, flatV]
end
end Nor
end
section
namespace Nor
open PySem L2 L2.NW
section
variable {P : Program} {w : World} {K : PySem.W.Frag} {mg : Str → Option Value} {base : Heap}
def spPartsOf (K : PySem.W.Frag) : Sp := fun vs H Q _ => ∃ (n t : Nat) (a : Addr) (d : Dep) (wf : Nat → Nat) (ps : List (List Nat)), vs = [.int (n : Int), .ref a] ∧ DepAt H a d ∧ d.parts wf = some (t, ps) ∧ wf t = n ∧ n ≤ 1000 ∧
  ∀ p H', Fm Non H H' → PartsAt H' p ps → Q (.ref p) H'
/-- t[k:] -/
def rDropT (K : PySem.W.Frag) : V → Option Int → Option Int → Hp → VK → Prop := fun x lo hi H Q => ∃ (a : Addr) (xs : List V) (k : Nat), x = .ref a ∧ lo = some (k : Int) ∧ hi = none ∧ SqT K H a xs ∧ 0 < k ∧ k ≤ xs.length ∧ ∀ p, H p = none → Q (.ref p) (upd H p (.tup (xs.drop k)))
theorem sl_drop {X : Cx} : SlR X (rDropT X.K) := by
  intro pins s σ H x v vl vu lo hi sl Q I rx hs pl pu h
  obtain ⟨a, xs, k, rfl, rfl, rfl, hx, h0, h1, q⟩ := h
  have e1 : HT.sIx xs.length 0 (some (k : Int)) = k := by rw [HT.sIx_nat]; omega
  have e2 : HT.sIx xs.length xs.length none = xs.length := rfl
  refine sl_tup pins s σ H _ v vl vu _ _ sl Q I rx hs pl pu ⟨a, xs, rfl, hx, by rw [e1]; omega, fun p hp => ?_⟩
  have e3 : cutV xs (some (k : Int)) none = xs.drop k := by
    unfold cutV
    rw [e1, e2, List.take_of_length_le (by rw [List.length_drop]; omega)]
  rw [e3]
  exact q p hp
theorem ifS_ne {a b : Str} {p q : Prop} (h : ¬ a = b) (k : q) : if decide (V.str a = V.str b) = true then p else q := by
  have e : decide (V.str a = V.str b) = false := decide_eq_false fun z => h (by injection z)
  rw [e]; exact k
theorem filt_take {i : Nat} (q : Nat → Bool) : (List.range (i + 1)).filter q = (List.range i).filter q ++ if q i = true then [i] else [] := by
  rw [List.range_succ, List.filter_append]
  by_cases h : q i = true
  · rw [if_pos h, List.filter_cons, if_pos h]; rfl
  · rw [if_neg h, List.filter_cons, if_neg h]; rfl
theorem scPartsOf : FnScope ["width", "dependency", "left", "right", "one", "column"] ["width", "dependency"] (defScope sPartsOf) := ⟨rfl, rfl, rfl, by decide +kernel, rfl, by decide +kernel, by decide +kernel⟩
theorem ok_partsOf {f : Addr} {fd : FuncData} (F : Fun K "parts_of" "parts_of" sPartsOf f fd) (mt : mg "tuple" = none) (mr : mg "range" = none) : FnOk P w K mg base CX0 1 f fd ["width", "dependency"] (spPartsOf K) := by
  refine F.ok scPartsOf (fun vs H Q E h => ?_) (fun cdv A outer s H vs Q E hr h => ?_)
  · obtain ⟨n, t, a, d, wf, ps, rfl, _⟩ := h
    rfl
  · obtain ⟨n, t, a, d, wf, ps, rfl, hd, hp, hw, hn, k⟩ := h
    have nd := scPartsOf.nd
    refine ⟨_, pss_cons (ps_if (pt_cmpR op_eq (pe_ix ix_tup (pv 1) pe_int (fun _ _ => rfl)) pe_str (nomark _)) (pss_one (ps_ret (pe_ix ix_tup (pv 1) pe_int (fun _ _ => rfl)))) pss_nil)
      (pss_cons (ps_asg (pe_slice sl_drop (pv 1) (po_some pe_int) po_none) (pg_tup rfl (pgs_cons (pg_name (i := 2) nd rfl (Or.inr rfl)) (pgs_cons (pg_name (i := 3) nd rfl (Or.inr rfl)) pgs_nil))))
      (pss_cons (ps_setLc (i := 4) (own := [("column", 5)]) (g := gName 5) rfl nd rfl rfl (sw_true rfl rfl rfl (by decide +kernel)) (pi_range1 rfl mr (pa_cons (pv 0) pa_nil)) (blkOk_by (N := ["width", "dependency", "left", "right", "one", "column"]) (sc := defScope sPartsOf) (by decide +kernel)) (fun _ _ _ _ _ => pg_name (i := 5) nd rfl (Or.inl rfl))
          (fun _ _ _ _ _ => pts_one (PW.pt (pw_or (pt_cmpR (r := rIn K false) op_in_seq (pv 5) (pv 2) rfl) (pw_or1 (pt_cmpR (r := rIn K false) op_in_seq (pv 5) (pv 3) rfl))))) (fun _ _ _ _ _ => pv 5))
      (pss_one (ps_ret (pe_tup (pa_cons (pe_callTy call_tuple_of rfl mt (by rfl) (pa_cons (pv 4) pa_nil))
        (pa_cons (pe_callTy call_tuple_of rfl mt (by rfl) (pa_cons (pe_lc (own := [("column", 5)]) (g := gName 5) rfl nd (pi_range1 rfl mr (pa_cons (pv 0) pa_nil)) (blkOk_by (N := ["width", "dependency", "left", "right", "one", "column"]) (sc := defScope sPartsOf) (by decide +kernel)) (fun _ _ _ _ _ => pg_name (i := 5) nd rfl (Or.inl rfl))
          (fun _ _ _ _ _ => pts_one (PW.pt (pw_or (pt_cmpR (r := rIn K false) op_in_seq (pv 5) (pv 2) rfl) (pw_or1 (pt_cmpR (r := rIn K true) op_notIn_seq (pv 5) (pv 3) rfl))))) (fun _ _ _ _ _ => pv 5)) pa_nil))
        pa_nil))))))), ?_⟩
    cases d with
    | settles => cases hp
    | within => cases hp
    | joins t' ps' =>
      cases hp
      obtain ⟨b, h1, h2⟩ := hd
      refine ⟨_, rfl, a, _, _, _, rfl, rfl, .of h1, atI_nat (j := 0) rfl, rfl, _, rfl, ?_⟩
      refine iteT ⟨_, rfl, a, _, _, _, rfl, rfl, .of h1, atI_nat (j := 2) rfl, k b H .refl h2⟩
    | deals t' l r =>
      cases hp
      obtain ⟨b, c, h1, h2, h3⟩ := hd
      refine ⟨_, rfl, a, _, _, _, rfl, rfl, .of h1, atI_nat (j := 0) rfl, rfl, _, rfl, ?_⟩
      refine ifS_ne (by decide +kernel) ?_
      refine ⟨_, rfl, _, rfl, a, _, 2, rfl, rfl, rfl, .of h1, by decide, (by show 2 ≤ 4; decide), fun p hp => ?_⟩
      have f1 : Fm Non H (upd H p (.tup [.ref b, .ref c])) := .new hp
      refine ⟨p, [.ref b, .ref c], rfl, .of upd_same, rfl, _, _, rfl, _, _, rfl, rfl, ?_⟩
      refine ⟨_, rfl, n, rfl, by omega, by omega, fun D hD => ?_⟩
      refine lc_acc (walk_r0 (n := n)) (S := Non) (fun i acc H' => acc = nV ((List.range i).filter fun c => decide (c ∈ l) || decide (c ∈ r))) (by omega) hD id (fun x => by rfl) (fun H' f => trivial) (fun i acc H1 H2 e _ => e) rfl ?_ ?_
      · rintro i x acc H2 H3 hi f rfl ⟨rfl, rfl⟩
        refine ⟨.refl, fun _ _ Qt Qf kt kf => ?_⟩
        rw [filt_take] at kt kf
        refine ⟨_, rfl, _, rfl, b, _, rfl, .inr (.of (f.ob _ _ (f1.ob _ _ h2 id) id)), rfl, flat_cols _, _, rfl, ?_⟩
        show if inV _ _ = true then _ else _
        rw [inV_cols]
        by_cases hl : i ∈ l
        · rw [if_pos (decide_eq_true hl)]
          exact ⟨_, rfl, kt _ _ .refl (by simp [nV, hl])⟩
        · rw [if_neg (by simp [hl])]
          refine ⟨_, rfl, _, rfl, c, _, rfl, .inr (.of (f.ob _ _ (f1.ob _ _ h3 id) id)), rfl, flat_cols _, _, rfl, ?_⟩
          show if inV _ _ = true then _ else _
          rw [inV_cols]
          by_cases hr : i ∈ r
          · rw [if_pos (decide_eq_true hr)]
            exact ⟨_, rfl, kt _ _ .refl (by simp [nV, hr])⟩
          · rw [if_neg (by simp [hr])]
            exact kf _ .refl (by simp [nV, hl, hr])
      · rintro acc H2 f hl hd' rfl
        have f2 := f1.trans f
        refine ⟨_, rfl, D, _, rfl, .inl ⟨.of hd', fun q hq => ?_⟩⟩
        have f3 : Fm Non H2 _ := .new (o := .tup (nV ((List.range n).filter fun c => decide (c ∈ l) || decide (c ∈ r)))) hq
        have f4 := f2.trans f3
        refine ⟨_, rfl, n, rfl, by omega, by omega, fun D2 hD2 => ?_⟩
        refine lc_acc (walk_r0 (n := n)) (S := Non) (fun i acc H' => acc = nV ((List.range i).filter fun c => decide (c ∈ l) || !decide (c ∈ r))) (by omega) hD2 id (fun x => by rfl) (fun H' f => trivial) (fun i acc H1 H2 e _ => e) rfl ?_ ?_
        · rintro i x acc H4 H5 hi f5 rfl ⟨rfl, rfl⟩
          refine ⟨.refl, fun _ _ Qt Qf kt kf => ?_⟩
          rw [filt_take] at kt kf
          refine ⟨_, rfl, _, rfl, b, _, rfl, .inr (.of (f5.ob _ _ (f4.ob _ _ h2 id) id)), rfl, flat_cols _, _, rfl, ?_⟩
          show if inV _ _ = true then _ else _
          rw [inV_cols]
          by_cases hl : i ∈ l
          · rw [if_pos (decide_eq_true hl)]
            exact ⟨_, rfl, kt _ _ .refl (by simp [nV, hl])⟩
          · rw [if_neg (by simp [hl])]
            refine ⟨_, rfl, _, rfl, c, _, rfl, .inr (.of (f5.ob _ _ (f4.ob _ _ h3 id) id)), rfl, flat_cols _, _, rfl, ?_⟩
            show if (!inV _ _) = true then _ else _
            rw [inV_cols]
            by_cases hr : i ∈ r
            · rw [if_neg (by simp [hr])]
              exact kf _ .refl (by simp [nV, hl, hr])
            · rw [if_pos (by simp [hr])]
              exact ⟨_, rfl, kt _ _ .refl (by simp [nV, hr])⟩
        · rintro acc H5 f5 hl2 hd5 rfl
          refine ⟨D2, _, rfl, .inl ⟨.of hd5, fun q2 hq2 => ⟨by show 2 ≤ sizeLine; decide, fun q3 hq3 => ?_⟩⟩⟩
          have f6 : Fm Non H5 _ := .new (o := .tup (nV ((List.range n).filter fun c => decide (c ∈ l) || !decide (c ∈ r)))) hq2
          have f7 : Fm Non (upd H5 q2 _) _ := .new (o := .tup [.ref q, .ref q2]) hq3
          have g1 := (f5.trans f6).trans f7
          refine k q3 _ (f4.trans g1) ⟨[q, q2], upd_same, .cons ?_ (.cons ?_ .nil)⟩
          · rw [hw]; exact g1.ob _ _ upd_same id
          · rw [hw]; exact f7.ob _ _ upd_same id
end
end Nor
end
section
/-! (x,) * k, k one or more; a row not in a tuple of rows. -/
namespace L2.NW
open PySem PySem.Spec PyProof.Rows
theorem tuple_mul_one (l : Addr) (items : Array Value) (n : Nat) (dd : Option Addr) (sl : Array (Option Value)) (u : Tok) :
    Meets (Builtin.«tuple.__mul__» ⟨[.ref l, .int 1 u], []⟩) (fun _ R s => s.heap.get? l = some { cls := .type "tuple", dict := dd, data := .seq items n, slots := sl } ∧ R (.ok (.ret (.ref l))) s) :=
  .of_wp fun prog w A R s h => by
    obtain ⟨hp, g, d, tk, os⟩ := s
    obtain ⟨hl, h⟩ := h
    have f1 := AutoSeq1.idx_int
    wp_walk using wpAny_loadPart' hl
    exact ⟨_, rfl, h⟩
section
variable {X : Cx}
def rRepN (K : PySem.W.Frag) : R2 := fun x y H Q => ∃ (l : Addr) (k : Int) (z : V), x = .ref l ∧ y = .int k ∧ H l = some (.tup [z]) ∧ 1 ≤ k ∧ k ≤ 1000 ∧ ∀ p H', (H' = H ∨ ∃ o, H p = none ∧ H' = upd H p o) → H' p = some (.tup (List.replicate k.toNat z)) → Q (.ref p) H'
theorem flat_one {α : Type} (z : α) : ∀ n : Nat, (List.replicate n [z]).flatten = List.replicate n z
  | 0 => rfl
  | n + 1 => by rw [List.replicate_succ, List.flatten_cons, flat_one z n, List.replicate_succ]; rfl
theorem op_repN : OpR X (binaryOp .Mult) (rRepN X.K) := by
  intro pins s σ H x y v u Q I rx ry h
  obtain ⟨l, k, z, rfl, rfl, hT, h1, h2, q⟩ := h
  by_cases hk : k = 1
  · subst hk
    cases rx
    obtain ⟨t, rfl⟩ := ry
    obtain ⟨its, r, ⟨⟨cls, dd, data, sl⟩, ho, hc, n, hd⟩, hs⟩ := I.tuple (SqT.of hT)
    simp only at hc hd
    subst hc hd
    exact wpAny_binaryOp_repeat_ref (T := "tuple") (U := "int") (by decide) ⟨_, ho, rfl⟩ (fun s' => typeIs_int s' 1 t) noFill_tuple_mul F.fills_int_mul F.slot_int_rmul repeat_tuple F.slot_int_index.lookup
      (call_meets F.slot_int_rmul (typeIs_int s 1 t) F.entry_int_rmul (F.args_int_rmul_2 _ _) (int_rmul_tuple 1 t l its.toArray n dd sl)
        ⟨ho, rfl, ⟨_, ho, rfl⟩, call_meets F.slot_tuple_mul ⟨_, ho, rfl⟩ F.entry_tuple_mul (F.args_tuple_mul_2 _ _) (tuple_mul_one l its.toArray n dd sl t) ⟨ho, ⟨.ref l, H, I, rfl, q l H (.inl rfl) hT⟩⟩⟩)
  · refine op_repT pins s σ H _ _ v u Q I rx ry ⟨l, k, [z], rfl, rfl, SqT.of hT, by simp, by omega, h2, (by show 1 ≤ 1000; decide), fun p hp => ?_⟩
    rw [flat_one]
    exact q p _ (.inr ⟨_, hp, rfl⟩) upd_same
def rInRows (K : PySem.W.Frag) : R2 := fun x y H Q => ∃ (r : List Int) (b : Addr) (zs : List V) (rs : List (List Int)), (∃ a, x = .ref a ∧ SqT K H a (r.map V.int)) ∧ y = .ref b ∧ SqT K H b zs ∧
  Paired (fun z (s : List Int) => ∃ a, z = V.ref a ∧ SqT K H a (s.map V.int)) zs rs ∧ Q (.bl (!decide (r ∈ rs))) H
theorem op_notInRows (hu : X.A.units + 64 < cLine) : OpR X (compareOp .NotIn) (rInRows X.K) := by
  intro pins s σ H x y v u Q I rx ry h
  obtain ⟨r, b, zs, rs, ⟨a, rfl, ha⟩, rfl, hb, hp, q⟩ := h
  obtain ⟨as, r1⟩ := Dp.reads I _ _ v (dp_row ha) rx
  have da : DpAll X.K H zs (rs.map fun r => PyData.tuple (r.map .int)) := by
    clear q hb
    induction hp with
    | nil => exact .nil
    | cons h t ih => obtain ⟨a, rfl, h⟩ := h; exact .cons (dp_row h) ih
  obtain ⟨bs, r2⟩ := Dp.reads I (.tuple (rs.map fun r => PyData.tuple (r.map .int))) _ u (.tup hb da) ry
  have lay : PyData.canLayAll0 (rs.map fun r => PyData.tuple (r.map .int)) = true := by
    have z : ∀ l : List Int, PyData.canLayAll0 (l.map .int) = true := by
      intro l
      induction l with
      | nil => rfl
      | cons y l ih => simpa [PyData.canLayAll0, PyData.canLay0] using ih
    have : ∀ l : List (List Int), PyData.canLayAll0 (l.map fun r => PyData.tuple (r.map .int)) = true := by
      intro l
      induction l with
      | nil => rfl
      | cons y l ih => simp only [List.map_cons, PyData.canLayAll0, PyData.canLay0, z, ih, Bool.and_self]
    exact this rs
  have dd := depth_row r
  refine SeqAt.notIn_tuple_reads r2 r1 lay (SeqAt.canLay_of_shaped (shaped_row r)) (by
    have := Nat.min_le_right (PyData.depthAll (rs.map fun r => PyData.tuple (r.map .int))) (PyData.tuple (r.map .int)).depth
    omega) ⟨.bl _, H, I, rfl, ?_⟩
  have e : (rs.map fun r => PyData.tuple (r.map .int)).any (fun y => PyData.eqv y (.tuple (r.map .int))) = decide (r ∈ rs) := by
    rw [List.any_map]
    have : (fun y => PyData.eqv y (PyData.tuple (r.map .int))) ∘ (fun r : List Int => PyData.tuple (r.map .int)) = fun s => decide (s = r) := by
      funext s; exact eqv_rows s r
    rw [this, Bool.eq_iff_iff]
    simp
  rw [e]
  exact q
end
end L2.NW
end
section
/-! missing_rows. -/
namespace Nor
open PySem L2 L2.NW
open Classical in
theorem mem_putK {κ : Type} [DecidableEq κ] {kvs : List (κ × V)} {k k' : κ} {v : V} : k' ∈ (putK kvs k v).map (·.1) ↔ k' ∈ kvs.map (·.1) ∨ k' = k := by
  have h : ∀ (l : List (κ × V)) j, j ∈ l.map (·.1) ↔ (valV l j).isSome = true := fun l j => by
    cases e : valV l j with
    | none => simp only [Option.isSome_none, Bool.false_eq_true, iff_false]; exact valV_not e
    | some v => simp only [Option.isSome_some, iff_true]; exact valV_in e
  rw [h, h, valV_put]
  by_cases e : k' = k
  · simp [e]
  · simp [e]
theorem mem_putK_ent {κ : Type} [DecidableEq κ] {kvs : List (κ × V)} {k : κ} {v : V} {p : κ × V} (h : p ∈ putK kvs k v) (hn : valV kvs k = none) : p ∈ kvs ∨ p = (k, v) := by
  rw [putK_new v hn] at h
  simpa using h
/-! ### keys with holes -/
def kAt (k : TKey) (c : Nat) : Option Int := k.getD c none
def Compat (k : TKey) (r : Row) (p : List Nat) : Prop := ∀ c ∈ p, kAt k c = none ∨ kAt k c = some (at' r c)
def extK (w : Nat) (k : TKey) (r : Row) (p : List Nat) : TKey := (List.range w).map fun c => if c ∈ p then some (at' r c) else kAt k c
structure Reach (w : Nat) (rows : List Row) (done : List (List Nat)) (k : TKey) : Prop where
  len : k.length = w
  hole : ∀ c, c < w → (kAt k c = none ↔ ¬ ∃ p ∈ done, c ∈ p)
  hit : ∀ p ∈ done, ∃ r ∈ rows, ∀ c ∈ p, kAt k c = some (at' r c)
theorem extK_at {w c : Nat} {k : TKey} {r : Row} {p : List Nat} (h : c < w) : kAt (extK w k r p) c = if c ∈ p then some (at' r c) else kAt k c := by
  unfold kAt extK
  rw [List.getD_eq_getElem?_getD, List.getElem?_map, List.getElem?_range h]; rfl
theorem extK_len {w : Nat} {k : TKey} {r : Row} {p : List Nat} : (extK w k r p).length = w := by simp [extK]
theorem key_ext {j k : TKey} (hl : j.length = k.length) (h : ∀ c, c < j.length → kAt j c = kAt k c) : j = k := by
  apply List.ext_getElem hl
  intro i h1 h2
  have := h i h1
  simpa [kAt, h1, h2] using this
theorem reach_zero {w : Nat} {rows : List Row} {k : TKey} : Reach w rows [] k ↔ k = List.replicate w none := by
  constructor
  · intro h
    refine key_ext (by simp [h.len]) fun c hc => ?_
    rw [h.len] at hc
    rw [(h.hole c hc).mpr (by simp)]
    simp [kAt, hc]
  · rintro rfl
    exact ⟨by simp, fun c hc => by simp [kAt, hc], fun p hp => by simp at hp⟩
theorem reach_step {w : Nat} {rows reps : List Row} {done : List (List Nat)} {p : List Nat} {k' : TKey} (hp : ∀ c ∈ p, c < w) (hd : ∀ q ∈ done, ∀ c ∈ q, c < w) (sub : ∀ r ∈ reps, r ∈ rows) (cov : ∀ r ∈ rows, ∃ r' ∈ reps, picks r' p = picks r p) :
    Reach w rows (done ++ [p]) k' ↔ ∃ k, Reach w rows done k ∧ ∃ r ∈ reps, Compat k r p ∧ k' = extK w k r p := by
  have pk : ∀ {a b : Row}, picks a p = picks b p → ∀ c ∈ p, at' a c = at' b c := fun {a b} e c hc => (List.map_inj_left.mp e) c hc
  constructor
  · intro h
    let k : TKey := (List.range w).map fun c => if ∃ q ∈ done, c ∈ q then kAt k' c else none
    have ka : ∀ c, c < w → kAt k c = if ∃ q ∈ done, c ∈ q then kAt k' c else none := fun c hc => by
      show kAt ((List.range w).map _) c = _
      unfold kAt
      rw [List.getD_eq_getElem?_getD, List.getElem?_map, List.getElem?_range hc]; rfl
    have some' : ∀ c, c < w → (∃ q ∈ done, c ∈ q) → kAt k' c ≠ none := fun c hc hq e => by
      obtain ⟨q, h1, h2⟩ := hq
      exact (h.hole c hc).mp e ⟨q, by simp [h1], h2⟩
    obtain ⟨r0, hr0, e0⟩ := h.hit p (by simp)
    obtain ⟨r, hr, e⟩ := cov r0 hr0
    refine ⟨k, ⟨by simp [k], fun c hc => ?_, fun q hq => ?_⟩, r, hr, fun c hc => ?_, ?_⟩
    · rw [ka c hc]
      by_cases hq : ∃ q ∈ done, c ∈ q
      · rw [if_pos hq]; exact ⟨fun z => absurd z (some' c hc hq), fun z => absurd hq z⟩
      · rw [if_neg hq]; exact ⟨fun _ => hq, fun _ => rfl⟩
    · obtain ⟨a, ha, ea⟩ := h.hit q (by simp [hq])
      refine ⟨a, ha, fun c hc => ?_⟩
      rw [ka c (hd q hq c hc), if_pos ⟨q, hq, hc⟩]
      exact ea c hc
    · rw [ka c (hp c hc)]
      by_cases hq : ∃ q ∈ done, c ∈ q
      · rw [if_pos hq]; right; rw [e0 c hc, pk e c hc]
      · rw [if_neg hq]; left; rfl
    · refine key_ext (by rw [h.len, extK_len]) fun c hc => ?_
      rw [h.len] at hc
      rw [extK_at hc]
      by_cases hcp : c ∈ p
      · rw [if_pos hcp, e0 c hcp, pk e c hcp]
      · rw [if_neg hcp, ka c hc]
        by_cases hq : ∃ q ∈ done, c ∈ q
        · rw [if_pos hq]
        · rw [if_neg hq]
          refine (h.hole c hc).mpr ?_
          rintro ⟨q, h1, h2⟩
          rcases List.mem_append.mp h1 with h1 | h1
          · exact hq ⟨q, h1, h2⟩
          · rw [List.mem_singleton.mp h1] at h2; exact hcp h2
  · rintro ⟨k, hk, r, hr, hc, rfl⟩
    refine ⟨extK_len, fun c hcw => ?_, fun q hq => ?_⟩
    · rw [extK_at hcw]
      by_cases hcp : c ∈ p
      · rw [if_pos hcp]
        exact ⟨fun z => (by simp at z), fun z => absurd ⟨p, by simp, hcp⟩ z⟩
      · rw [if_neg hcp, hk.hole c hcw]
        constructor
        · rintro z ⟨q, h1, h2⟩
          rcases List.mem_append.mp h1 with h1 | h1
          · exact z ⟨q, h1, h2⟩
          · rw [List.mem_singleton.mp h1] at h2; exact hcp h2
        · rintro z ⟨q, h1, h2⟩
          exact z ⟨q, by simp [h1], h2⟩
    · rcases List.mem_append.mp hq with hq | hq
      · obtain ⟨a, ha, ea⟩ := hk.hit q hq
        refine ⟨a, ha, fun c hc' => ?_⟩
        rw [extK_at (hd q hq c hc')]
        by_cases hcp : c ∈ p
        · rw [if_pos hcp]
          rcases hc c hcp with z | z
          · rw [ea c hc'] at z; cases z
          · rw [← z, ea c hc']
        · rw [if_neg hcp]; exact ea c hc'
      · rw [List.mem_singleton.mp hq]
        refine ⟨r, sub r hr, fun c hc' => ?_⟩
        rw [extK_at (hp c hc'), if_pos hc']
/-- the rows that a join has -/
theorem reach_rows {w : Nat} {rows : List Row} {ps : List (List Nat)} (cov : ∀ c, c < w → ∃ p ∈ ps, c ∈ p) (hd : ∀ q ∈ ps, ∀ c ∈ q, c < w) {k : TKey} (h : Reach w rows ps k) :
    ∃ r : Row, k = rowK r ∧ r.length = w ∧ ∀ p ∈ ps, ∃ a ∈ rows, picks a p = picks r p := by
  refine ⟨k.map fun o => o.getD 0, ?_, by simp [h.len], fun p hp => ?_⟩
  · refine key_ext (by simp) fun c hc => ?_
    rw [h.len] at hc
    have hs : kAt k c ≠ none := fun e => (h.hole c hc).mp e (cov c hc)
    have hc' : c < k.length := by rw [h.len]; exact hc
    unfold kAt at hs ⊢
    simp [hc'] at hs ⊢
    cases e : k[c] with
    | none => exact absurd e hs
    | some v => rfl
  · obtain ⟨a, ha, ea⟩ := h.hit p hp
    refine ⟨a, ha, List.map_congr_left fun c hc => ?_⟩
    have hc' : c < k.length := by rw [h.len]; exact hd p hp c hc
    have := ea c hc
    unfold kAt at this
    simp [hc'] at this
    simp [at', hc', this]
theorem rows_reach {w : Nat} {rows : List Row} {ps : List (List Nat)} (cov : ∀ c, c < w → ∃ p ∈ ps, c ∈ p) (hd : ∀ q ∈ ps, ∀ c ∈ q, c < w) {r : Row} (hr : r.length = w) (h : ∀ p ∈ ps, ∃ a ∈ rows, picks a p = picks r p) : Reach w rows ps (rowK r) := by
  have ka : ∀ c, c < w → kAt (rowK r) c = some (at' r c) := fun c hc => by
    have : c < r.length := by rw [hr]; exact hc
    simp [kAt, rowK, at', this]
  refine ⟨by simp [hr], fun c hc => ?_, fun p hp => ?_⟩
  · rw [ka c hc]
    exact ⟨fun z => (by cases z), fun z => absurd (cov c hc) z⟩
  · obtain ⟨a, ha, e⟩ := h p hp
    refine ⟨a, ha, fun c hc => ?_⟩
    rw [ka c (hd p hp c hc), (List.map_inj_left.mp e) c hc]
theorem paired_at {α β : Type} {F : α → β → Prop} {l : List α} {m : List β} (p : Paired F l m) : ∀ {i : Nat} {a : α}, l[i]? = some a → ∃ b, m[i]? = some b ∧ F a b := by
  induction p with
  | nil => intro i q h; simp at h
  | @cons a b as bs hab t ih =>
    intro i q h
    cases i with
    | zero => simp at h; subst h; exact ⟨b, by simp, hab⟩
    | succ i => simp at h; obtain ⟨x, h1, h2⟩ := ih h; exact ⟨x, by simpa using h1, h2⟩
theorem map_at {α β : Type} {f : α → β} {l : List α} {i : Nat} {x : β} (h : (l.map f)[i]? = some x) : ∃ s, l[i]? = some s ∧ x = f s := by
  rw [List.getElem?_map] at h
  cases e : l[i]? with
  | none => rw [e] at h; cases h
  | some s => rw [e] at h; exact ⟨s, rfl, (Option.some.inj h).symm⟩
theorem mem_take_succ {α : Type} {l : List α} {i : Nat} {s z : α} (h : l[i]? = some s) : z ∈ l.take (i + 1) ↔ z ∈ l.take i ∨ z = s := by
  rw [List.take_add_one, h]; simp
theorem key_at {k : TKey} {n c : Nat} (h : k.length = n) (hc : c < n) : (k.map oV)[c]? = some (oV (kAt k c)) := by
  have : c < k.length := by omega
  simp [kAt, this]
theorem inV_hole (o : Option Int) (x : Int) : inV (oV o) [.non, .int x] = decide (o = none ∨ o = some x) := by
  cases o with
  | none => rfl
  | some y =>
    show (eqV .non (.int y) || (eqV (.int x) (.int y) || false)) = _
    have e : eqV .non (.int y) = false := rfl
    rw [e, eqV_int]
    by_cases h : x = y
    · subst h; simp
    · have : ¬ y = x := fun z => h z.symm
      simp [h, this]
theorem _root_.L2.NW.Fm.sub {p : Addr} {H H1 H2 : Hp} (x : Fm Non H H1) (y : Fm (fun a => a = p) H1 H2) (h : H p = none) : Fm Non H H2 := x.step y fun a z => .inr (by rw [z]; exact h)
end Nor
end
section
/-! missing_rows: its two comprehensions. -/
namespace Nor
open PySem L2 L2.NW
theorem seq_i {t1 t2 : TS} {D : Ends} {σ : St} {H : Hp} (h : t1 { D with nx := t2 D } σ H) : tSeq t1 t2 D σ H := h
theorem asg_i {te : TE} {g : TG} {D : Ends} {σ : St} {H : Hp} (h : te σ H fun x H1 => g x σ H1 D.nx) : tAsg te g D σ H := h
theorem ret_i {te : TE} {D : Ends} {σ : St} {H : Hp} (h : te σ H D.rt) : tRet te D σ H := h
theorem if_i {c : TT} {t u : TS} {D : Ends} {σ : St} {H : Hp} (h : c σ H fun b H1 => if b = true then t D σ H1 else u D σ H1) : tIfS c t u D σ H := h
section
variable {K : PySem.W.Frag} {σ : St} {H : Hp} {e vk sr : Addr} {q : List Nat} {k : TKey} {r : Row} {n : Nat}
abbrev tAllM (K : PySem.W.Frag) : TT := tB (tCB (rAll K) (tCons (tLc (iTup K (tVar 4)) (gName 12) tYes (tOp (rIn K false) (tOp (rIxT K) (tVar 8) (tVar 12)) (tTup (tCons (tC .non) (tCons (tOp (rIxT K) (tVar 6) (tVar 12)) tNil)))) [12]) tNil))
theorem all_read {Q : Bool → Hp → Prop} (h4 : σ[4]? = some (some (.ref e))) (h6 : σ[6]? = some (some (.ref sr))) (h8 : σ[8]? = some (some (.ref vk))) (hz : σ.length = 13) (te : Tu H e (nV q)) (tk : Tu H vk (k.map oV)) (tr : RowT H sr r)
    (kl : k.length = n) (rl : r.length = n) (hq : ∀ c ∈ q, c < n) (hs : q.length ≤ 1000) (h1 : Compat k r q → ∀ H', Fm Non H H' → Q true H') (h2 : ¬ Compat k r q → ∀ H', Fm Non H H' → Q false H') : tAllM K σ H Q := by
  refine ⟨_, h4, e, rfl, ⟨_, .of te⟩, fun D hD => ?_⟩
  refine lc_acc (walk_tup (K := K) (xs := nV q)) (S := Non) (fun i acc H' => acc = ((q.take i).map fun c => decide (kAt k c = none ∨ kAt k c = some (at' r c))).map V.bl) (by rw [nV_len]; omega) hD id (fun x => by simp [wipe]) (fun H' f => .of (f.ob _ _ te id)) (fun i acc H1 H2 e _ => e) rfl ?_ ?_
  · rintro i x acc H2 H3 hi f rfl ⟨rfl, hx⟩
    refine ⟨.refl, fun _ _ Qt Qf kt kf => ?_⟩
    obtain ⟨c, hc', rfl⟩ := nV_get hx
    have hcn := hq c (List.mem_of_getElem? hc')
    refine ⟨_, (by simp [wipe, h8]), .int (c : Int), (by simp [wipe, hz]), vk, _, _, _, rfl, rfl, .of (f.ob _ _ tk id), atI_nat (key_at kl hcn), ?_⟩
    refine ⟨_, (by simp [wipe, h6]), .int (c : Int), (by simp [wipe, hz]), sr, _, _, _, rfl, rfl, .of (f.ob _ _ tr id), atI_nat (row_at (by rw [rl]; exact hcn)), (by show 2 ≤ sizeLine; decide), fun t ht => ?_⟩
    refine ⟨t, _, rfl, .inr (.of upd_same), ?_, rfl, ?_⟩
    · cases kAt k c <;> rfl
    · show Qt (.bl (inV _ _)) _
      rw [inV_hole]
      refine kt _ _ (.new ht) ?_
      rw [List.take_add_one, hc']
      simp
  · rintro acc H2 f hl hd rfl
    rw [nV_len, List.take_length] at *
    refine ⟨D, _, rfl, .of hd, _, rfl, ?_⟩
    have e1 : (q.map fun c => decide (kAt k c = none ∨ kAt k c = some (at' r c))).all id = true ↔ Compat k r q := by
      simp [Compat]
    by_cases hc : Compat k r q
    · rw [e1.mpr hc]; exact h1 hc _ f
    · have : (q.map fun c => decide (kAt k c = none ∨ kAt k c = some (at' r c))).all id = false := by
        cases z : (q.map fun c => decide (kAt k c = none ∨ kAt k c = some (at' r c))).all id with
        | false => rfl
        | true => exact absurd (e1.mp z) hc
      rw [this]; exact h2 hc _ f
abbrev tMoreM (K : PySem.W.Frag) : TE := tLc (iRng1 (tCons (tVar 0) tNil)) (gName 12) tYes (tIf (tTest (tOp (rIn K false) (tVar 12) (tVar 4))) (tOp (rIxT K) (tVar 6) (tVar 12)) (tOp (rIxT K) (tVar 8) (tVar 12))) [12]
theorem more_read {Q : VK} (h0 : σ[0]? = some (some (.int (n : Int)))) (h4 : σ[4]? = some (some (.ref e))) (h6 : σ[6]? = some (some (.ref sr))) (h8 : σ[8]? = some (some (.ref vk))) (hz : σ.length = 13) (te : Tu H e (nV q)) (tk : Tu H vk (k.map oV)) (tr : RowT H sr r)
    (kl : k.length = n) (rl : r.length = n) (hn : n ≤ 1000) (h : ∀ D H', H D = none → Fm Non H H' → H' D = some (.lst ((extK n k r q).map oV)) → Q (.ref D) H') : tMoreM K σ H Q := by
  refine ⟨_, h0, n, rfl, by omega, by omega, fun D hD => ?_⟩
  refine lc_acc (walk_r0 (n := n)) (S := Non) (fun i acc H' => acc = (List.range i).map fun c => oV (if c ∈ q then some (at' r c) else kAt k c)) (by omega) hD id (fun x => by simp [wipe]) (fun H' f => trivial) (fun i acc H1 H2 e _ => e) rfl ?_ ?_
  · rintro i x acc H2 H3 hi f rfl ⟨rfl, rfl⟩
    refine ⟨.refl, fun _ _ Qt Qf kt kf => ?_⟩
    refine ⟨.int (i : Int), (by simp [wipe, hz]), _, (by simp [wipe, h4]), e, _, rfl, .inr (.of (f.ob _ _ te id)), rfl, flat_cols _, _, rfl, ?_⟩
    show if inV _ _ = true then _ else _
    rw [inV_cols]
    by_cases hc : i ∈ q
    · rw [if_pos (decide_eq_true hc)]
      refine ⟨_, (by simp [wipe, h6]), .int (i : Int), (by simp [wipe, hz]), sr, _, _, _, rfl, rfl, .of (f.ob _ _ tr id), atI_nat (row_at (by rw [rl]; exact hi)), kt _ _ .refl ?_⟩
      rw [List.range_succ, List.map_append]
      simp [hc, oV]
    · rw [if_neg (by simp [hc])]
      refine ⟨_, (by simp [wipe, h8]), .int (i : Int), (by simp [wipe, hz]), vk, _, _, _, rfl, rfl, .of (f.ob _ _ tk id), atI_nat (key_at kl hi), kt _ _ .refl ?_⟩
      rw [List.range_succ, List.map_append]
      simp [hc]
  · rintro acc H2 f hl hd rfl
    refine h D H2 hD f ?_
    rw [hd]
    simp [extK, Function.comp_def]
end
section
variable {P : Program} {w : World} {K : PySem.W.Frag}
/-- the keys of a dict are these rows -/
def RowsD (P : Program) (w : World) (H : Hp) (d : Addr) (rs : List Row) : Prop := ∃ kvs : List (TKey × V), NDict P w H d kvs ∧ kvs.map (·.1) = rs.map rowK
theorem mapK_nodup {rs : List Row} : (rs.map rowK).Nodup ↔ rs.Nodup := by
  constructor
  · exact List.Pairwise.of_map rowK fun a b h e => h (by rw [e])
  · exact fun h => List.Pairwise.map rowK (fun a b hne e => hne (rowK_inj e)) h
theorem RowsD.nodup {H : Hp} {d : Addr} {rs : List Row} (x : RowsD P w H d rs) : rs.Nodup := by
  obtain ⟨kvs, h, e⟩ := x
  have := h.nodup
  rw [e] at this
  exact mapK_nodup.mp this
theorem RowsD.fm {S : Addr → Prop} {H H' : Hp} {d : Addr} {rs : List Row} (x : RowsD P w H d rs) (f : Fm S H H') (n : ¬ S d) : RowsD P w H' d rs := let ⟨kvs, h, e⟩ := x; ⟨kvs, f.nd h n, e⟩
theorem RowsD.ob {H : Hp} {d : Addr} {rs : List Row} (x : RowsD P w H d rs) : ∃ es ep, H d = some (rawD d es ep) := let ⟨_, h, _⟩ := x; h.ob
/-- one row more -/
theorem RowsD.put {H H' : Hp} {d : Addr} {rs : List Row} {kvs : List (TKey × V)} {r : Row} {v : V} (e : kvs.map (·.1) = rs.map rowK) (np : NPut P w H d (putK kvs (rowK r) v) H') : ∃ rs', RowsD P w H' d rs' ∧ (∀ x, x ∈ rs' ↔ x ∈ rs ∨ x = r) ∧ rs'.length ≤ rs.length + 1 ∧ (r ∉ rs → rs' = rs ++ [r]) ∧ (r ∈ rs → rs' = rs) := by
  have mr : ∀ x : Row, rowK x ∈ kvs.map (·.1) ↔ x ∈ rs := fun x => by
    rw [e]
    constructor
    · intro h
      obtain ⟨y, hy, e⟩ := List.mem_map.mp h
      rw [← rowK_inj e]; exact hy
    · exact fun h => List.mem_map.mpr ⟨x, h, rfl⟩
  cases hv : valV kvs (rowK r) with
  | none =>
    have hn : r ∉ rs := fun h => valV_not hv ((mr r).mpr h)
    refine ⟨rs ++ [r], ⟨_, np.dict, ?_⟩, fun x => by simp, by simp, fun _ => rfl, fun h => absurd h hn⟩
    rw [putK_new _ hv, List.map_append, e, List.map_append]; rfl
  | some u =>
    have hn : r ∈ rs := (mr r).mp (valV_in hv)
    refine ⟨rs, ⟨_, np.dict, ?_⟩, fun x => ⟨.inl, fun h => h.elim id fun h => by rw [h]; exact hn⟩, Nat.le_succ _, fun h => absurd hn h, fun _ => rfl⟩
    unfold putK
    rw [valV_any, hv]
    simp only [Option.isSome_some, if_true, List.map_map]
    rw [← e]
    refine List.map_congr_left fun z _ => ?_
    simp only [Function.comp_apply]
    split <;> rfl
/-- {row: True for row in ..} -/
theorem rowdict {J : It} {G : Hp → Prop} {qs : List (Addr × Row)} {j : Nat} {σ : St} {H1 : Hp} {D : Addr} {Nx : Hp → Prop} (wk : Walk J qs.length G (fun i H x H' => H' = H ∧ ∃ s : Addr × Row, qs[i]? = some s ∧ x = .ref s.1)) (hG : ∀ H, Fm Non H1 H → G H) (hrow : ∀ s ∈ qs, RowT H1 s.1 s.2) (hw : wipe σ [j] = σ) (hj : j < σ.length)
    (hD : H1 D = none) (hsys : (D == sysModules) = false) (hz : qs.length ≤ 100000)
    (h : ∀ (H' : Hp) (rs : List Row), Fm Non H1 H' → RowsD P w H' D rs → (∀ r, r ∈ rs ↔ r ∈ qs.map (·.2)) → rs.length ≤ qs.length → Nx H') : tLoopIn J (gName j) tYes (tNKey P w (tVar j) (tC (.bl true)) D) [j] σ (upd H1 D (rawD D #[] 0)) Nx := by
  have np0 : NPut P w H1 D [] (upd H1 D (rawD D #[] 0)) := nput_new hsys
  refine dc_it wk (fun i H => ∃ rs : List Row, Fm Non H1 H ∧ RowsD P w H D rs ∧ (∀ r, r ∈ rs ↔ r ∈ (qs.take i).map (·.2)) ∧ rs.length ≤ i) hw ⟨[], .putnew np0 hD, ⟨[], np0.dict, rfl⟩, fun r => by simp, Nat.le_refl _⟩ (fun i H _ ⟨_, f, _⟩ => hG H f) ?_ ?_
  · rintro i x H H' hi ⟨rs, f, ⟨kvs, hd, he⟩, hm, hl⟩ ⟨rfl, s, hs, rfl⟩
    refine ⟨by rw [← hw]; simp [wipe], _, by simp [hj]; rfl, ?_⟩
    have hl2 : kvs.length = rs.length := by have := congrArg List.length he; simpa using this
    refine ⟨s.1, rowK s.2, kvs, rfl, (by rw [rowK_V]; exact f.ob _ _ (hrow s (List.mem_of_getElem? hs)) id), hd, by rw [sizeLine_eq]; omega, fun H3 np => ?_⟩
    obtain ⟨rs', h1, h2, h3, _⟩ := RowsD.put he np
    refine ⟨rs', f.sub (.put np hd rfl) hD, h1, fun r => ?_, by omega⟩
    rw [h2 r, hm r, List.take_add_one, hs]
    simp
  · rintro H ⟨rs, f, hd, hm, hl⟩
    refine h H rs f hd (fun r => ?_) hl
    rw [hm r, List.take_length]
theorem walk_listR {b : Addr} {qs : List (Addr × Row)} : Walk (Itl K b) qs.length (fun H => SqL K H b (qs.map fun z => V.ref z.1)) (fun i H x H' => H' = H ∧ ∃ s : Addr × Row, qs[i]? = some s ∧ x = .ref s.1) := by
  have := walk_list (K := K) (a := b) (xs := qs.map fun z => V.ref z.1)
  rw [List.length_map] at this
  exact this.mono (fun _ h => h) fun i H x H' _ _ y => ⟨y.1, map_at y.2⟩
theorem walk_tupR {b : Addr} {qs : List (Addr × Row)} : Walk (Itt K b) qs.length (fun H => SqT K H b (qs.map fun z => V.ref z.1)) (fun i H x H' => H' = H ∧ ∃ s : Addr × Row, qs[i]? = some s ∧ x = .ref s.1) := by
  have := walk_tup (K := K) (a := b) (xs := qs.map fun z => V.ref z.1)
  rw [List.length_map] at this
  exact this.mono (fun _ h => h) fun i H x H' _ _ y => ⟨y.1, map_at y.2⟩
end
end Nor
end
section
/-! missing_rows: the walk. -/
namespace Nor
open PySem L2 L2.NW
section
variable {P : Program} {w : World} {K : PySem.W.Frag} {mg : Str → Option Value} {base : Heap}
def spMissing (K : PySem.W.Frag) (P : Program) (w : World) : Sp := fun vs H Q _ => ∃ (n : Nat) (b p : Addr) (qs : List (Addr × Row)) (ps : List (List Nat)), vs = [.int (n : Int), .ref b, .ref p] ∧ SqL K H b (qs.map fun z => V.ref z.1) ∧ (∀ q ∈ qs, RowT H q.1 q.2) ∧ (∀ q ∈ qs, q.2.length = n) ∧ qs.length ≤ 64 ∧
  PartsAt H p ps ∧ ps.length ≤ 3 ∧ 1 ≤ n ∧ n ≤ 1000 ∧ (∀ q ∈ ps, ∀ c ∈ q, c < n) ∧ (∀ q ∈ ps, q.length ≤ 1000) ∧ (∀ c, c < n → ∃ q ∈ ps, c ∈ q) ∧
  ∀ d H' (rs : List Row) kvs, Fm Non H H' → H d = none → NDict P w H' d kvs → kvs.map (·.1) = rs.map rowK → (∀ r, r ∈ rs ↔ r.length = n ∧ r ∉ qs.map (·.2) ∧ ∀ q ∈ ps, ∃ a ∈ qs.map (·.2), picks a q = picks r q) → Q (.ref d) H'
abbrev nMissing : List Str := ["width", "rows", "parts", "found", "part", "firsts", "row", "longer", "values", "chosen", "more", "known", "column"]
theorem scMissing : FnScope nMissing ["width", "rows", "parts"] (defScope sMissing) := ⟨rfl, rfl, rfl, by decide +kernel, rfl, by decide +kernel, by decide +kernel⟩
theorem ok_missing {f f1 : Addr} {fd fd1 : FuncData} (F : Fun K "missing_rows" "missing_rows" sMissing f fd) (o1 : Own K mg "picked" f1 fd1 ["row", "columns"]) (G1 : FnOk P w K mg base CX0 1 f1 fd1 ["row", "columns"] (spPicked K)) (mt : mg "tuple" = none) (mr : mg "range" = none) (ma : mg "all" = none) : FnOk P w K mg base CX0 2 f fd ["width", "rows", "parts"] (spMissing K P w) := by
  refine F.ok scMissing (fun vs H Q E h => ?_) (fun cdv A outer s H vs Q E hr h => ?_)
  · obtain ⟨n, b, p, qs, ps, rfl, _⟩ := h
    rfl
  · obtain ⟨n, b, p, qs, ps, rfl, hb, hrow, hlen, h64, hps, h3, hn1, hn2, hlt, hsm, hcov, k⟩ := h
    have nd := scMissing.nd
    have hu := hu_of hr
    have hu0 := Nat.lt_of_succ_lt hu
    refine ⟨_, pss_cons (ps_set (i := 3) nd rfl (Or.inl rfl) (pe_ndisp hu0 (pe_op op_repN (pe_tup (pa_cons pe_non pa_nil)) (pv 0)) (pe_tup pa_nil)))
      (pss_cons (ps_for PassesOwn.never rfl (pi_tup (pv 2)) (pg_name (i := 4) nd rfl (Or.inr rfl))
        (pss_cons (ps_set (i := 5) nd rfl (Or.inl rfl) pe_nnew)
        (pss_cons (ps_for PassesOwn.never rfl (pi_list (pv 1)) (pg_name (i := 6) nd rfl (Or.inr rfl))
          (pss_one (ps_expr (pe_nsetd hu (pv 5) (pe_call G1 hr rfl o1.mgf o1.kp o1.bd .nil pass0 (pa_cons (pv 6) (pa_cons (pv 4) pa_nil))) (pv 6) ⟨rfl, rfl, rfl, rfl⟩))))
        (pss_cons (ps_set (i := 7) nd rfl (Or.inl rfl) pe_nnew)
        (pss_cons (ps_for PassesOwn.never rfl (pi_nitems (pv 3)) (pg_tup rfl (pgs_cons (pg_name (i := 8) nd rfl (Or.inr rfl)) (pgs_cons (pg_name (i := 9) nd rfl (Or.inl rfl)) pgs_nil)))
          (pss_one (ps_for PassesOwn.never rfl (pi_nvals (pv 5)) (pg_name (i := 6) nd rfl (Or.inr rfl))
            (pss_one (ps_if (pt_val (pe_callB (cr_all rfl) rfl ma PyProof.Rows.boot_all (pa_cons (pe_lc (own := [("column", 12)]) (g := gName 12) (tt := tYes) rfl nd (pi_tup (pv 4)) (blkOk_by (N := nMissing) (sc := defScope sMissing) (by decide +kernel)) (fun _ _ _ _ _ => pg_name (i := 12) nd rfl (Or.inl rfl)) (fun _ _ _ _ _ => pts_nil)
                (fun _ _ _ _ _ => pe_cmpR (r := rIn K false) op_in_seq (pe_ix (r := rIxT K) ix_tup (pv 8) (pv 12) (fun _ _ => rfl)) (pe_tup (pa_cons pe_non (pa_cons (pe_ix (r := rIxT K) ix_tup (pv 6) (pv 12) (fun _ _ => rfl)) pa_nil))) rfl)) pa_nil)))
              (pss_cons (ps_setLc (i := 10) (own := [("column", 12)]) (g := gName 12) (tt := tYes) rfl nd rfl rfl (sw_true rfl rfl rfl (by decide +kernel)) (pi_range1 rfl mr (pa_cons (pv 0) pa_nil)) (blkOk_by (N := nMissing) (sc := defScope sMissing) (by decide +kernel)) (fun _ _ _ _ _ => pg_name (i := 12) nd rfl (Or.inl rfl)) (fun _ _ _ _ _ => pts_nil)
                (fun _ _ _ _ _ => pe_ifExp (pt_cmpR (r := rIn K false) op_in_seq (pv 12) (pv 4) rfl) (pe_ix (r := rIxT K) ix_tup (pv 6) (pv 12) (fun _ _ => rfl)) (pe_ix (r := rIxT K) ix_tup (pv 8) (pv 12) (fun _ _ => rfl))))
              (pss_one (ps_expr (pe_nsetd hu (pv 7) (pe_callTy call_tuple_of rfl mt (by rfl) (pa_cons (pv 10) pa_nil)) (pe_op op_catA (pv 9) (pe_tup (pa_cons (pv 6) pa_nil))) ⟨rfl, rfl, rfl, rfl⟩)))) pss_nil)))))
        (pss_one (ps_set (i := 3) nd rfl (Or.inl rfl) (pv 7))))))))
      (pss_cons (ps_set (i := 11) nd rfl (Or.inr rfl) (pe_dcs (own := [("row", 6)]) (vs := [6]) (g := gName 6) (tt := tYes) (tb := tNKey P w (tVar 6) (tC (.bl true))) (fun D => rawD D #[] 0) rfl nd (fun H h hb => ho_N hb) (by intro g hg; simp at hg; rw [hg]) (pi_list (pv 1)) (blkOk_by (N := nMissing) (sc := defScope sMissing) (by decide +kernel)) (fun _ _ _ _ _ => pg_name (i := 6) nd rfl (Or.inl rfl)) (fun _ _ _ _ _ => pts_nil)
          (fun _ _ _ _ _ => em_nkey rfl hu0 rfl (pv 6) pe_bl)))
      (pss_one (ps_ret (pe_dcs (own := [("row", 6), ("chosen", 9)]) (vs := [6, 9]) (g := gTup K 2 (gCons (gName 6) (gCons (gName 9) gNil))) (tb := tNKey P w (tVar 6) (tVar 9)) (tt := tTest (tOp (rNIn P w true) (tVar 6) (tVar 11))) (fun D => rawD D #[] 0) rfl nd (fun H h hb => ho_N hb) (by intro g hg; simp at hg; rw [hg]) (pi_nitems (pv 3)) (blkOk_by (N := nMissing) (sc := defScope sMissing) (by decide +kernel)) (fun _ _ _ _ _ => pg_tup rfl (pgs_cons (pg_name (i := 6) nd rfl (Or.inl rfl)) (pgs_cons (pg_name (i := 9) nd rfl (Or.inl rfl)) pgs_nil)))
          (fun _ _ _ _ _ => pts_one (pt_cmpR (op_nnotin hu) (pv 6) (pv 11) rfl)) (fun _ _ _ _ _ => em_nkey rfl hu0 rfl (pv 6) (pv 9))))))), ?_⟩
    -- found = {(None,) * width: ()}
    intro f0 H1 hf0 np1
    have f1 : Fm Non H H1 := .putnew np1 hf0
    refine ⟨by show 1 ≤ sizeLine; decide, fun q1 hq1 => ⟨_, rfl, q1, n, .non, rfl, rfl, upd_same, by omega, by omega, fun q2 H2 hq2 r2 => ?_⟩⟩
    have f2 : Fm Non H H2 := by
      have g1 : Fm Non H1 (upd H1 q1 (.tup [.non])) := .new hq1
      rcases hq2 with rfl | ⟨o, ho, rfl⟩
      · exact f1.trans g1
      · exact (f1.trans g1).trans (.new ho)
    have d2 : NDict P w H2 f0 [] := by
      have g1 : Fm Non H1 (upd H1 q1 (.tup [.non])) := .new hq1
      have d1 : NDict P w _ f0 [] := g1.nd np1.dict id
      rcases hq2 with rfl | ⟨o, ho, rfl⟩
      · exact d1
      · exact Fm.nd (S := Non) (.new ho) d1 id
    refine ⟨Nat.zero_le _, fun q3 hq3 => ?_⟩
    have f3 : Fm Non H2 (upd H2 q3 (.tup [])) := .new hq3
    have e2 : List.replicate (n : Int).toNat V.non = (List.replicate n (none : Option Int)).map oV := by simp [oV]
    rw [e2] at r2
    refine ⟨q2, List.replicate n none, rfl, f3.ob _ _ r2 id, f3.nd d2 id, fun H4 np4 => ?_⟩
    have p4 : Fm (fun a => a = f0) _ H4 := .put np4 (f3.nd d2 id) rfl
    have f4 : Fm Non H H4 := (f2.trans f3).sub p4 hf0
    have v4 : H4 q3 = some (.tup []) := p4.tk _ _ upd_same
    have row : ∀ {H'}, Fm Non H H' → ∀ q ∈ qs, RowT H' q.1 q.2 := fun f q hq => f.ob _ _ (hrow q hq) id
    obtain ⟨es, hes, pe⟩ := hps
    -- for part in parts
    refine ⟨_, rfl, p, rfl, ⟨_, .of (f4.ob _ _ hes id)⟩, for_tup (K := K) (a := p) (xs := es.map V.ref) (fun i σ H2 => ∃ (fd : Addr) (kvs : List (TKey × V)) (x4 x5 x6 x7 x8 x9 x10 : Option V),
      σ = [some (.int (n : Int)), some (.ref b), some (.ref p), some (.ref fd), x4, x5, x6, x7, x8, x9, x10, none, none] ∧ Fm Non H H2 ∧ NDict P w H2 fd kvs ∧ kvs.length ≤ 64 ^ i ∧ (∀ k, k ∈ kvs.map (·.1) ↔ Reach n (qs.map (·.2)) (ps.take i) k) ∧
      (∀ z ∈ kvs, ∃ a xs, z.2 = .ref a ∧ Tu H2 a xs ∧ xs.length ≤ i)) ?_ ?_ ?_ ?_⟩
    · refine ⟨f0, _, none, none, none, none, none, none, none, rfl, f4, np4.dict, Nat.le_refl _, fun k => ?_, fun z hz => ?_⟩
      · rw [List.take_zero, reach_zero]; simp
      · rw [List.mem_singleton.mp hz]; exact ⟨q3, [], rfl, v4, Nat.le_refl _⟩
    · rintro i σ H2 _ ⟨_, _, _, _, _, _, _, _, _, _, f, _⟩
      exact .of (f.ob _ _ hes id)
    · rintro i x σ Ha hx ⟨fd, kvs, x4, x5, x6, x7, x8, x9, x10, rfl, fa, nda, lna, mema, vala⟩
      obtain ⟨e, he, rfl⟩ := map_at hx
      obtain ⟨q, hq, te⟩ := paired_at pe he
      have hqp := List.mem_of_getElem? hq
      have hqn := hlt q hqp
      have hqs := hsm q hqp
      have hi3 : i < ps.length := (List.getElem?_eq_some_iff.mp hq).1
      -- firsts = {}
      intro fs Hb hfs npb
      have fab : Fm Non Ha Hb := .putnew npb hfs
      -- for row in rows
      refine ⟨_, rfl, b, rfl, ⟨_, (fa.trans fab).sl hb id⟩, for_list (K := K) (a := b) (xs := qs.map fun z => V.ref z.1) (fun j σ Hc => ∃ (reps : List (Addr × Row)) (x6 : Option V),
        σ = [some (.int (n : Int)), some (.ref b), some (.ref p), some (.ref fd), some (.ref e), some (.ref fs), x6, x7, x8, x9, x10, none, none] ∧ Fm (fun a => a = fs) Hb Hc ∧ NDict P w Hc fs (reps.map fun s => (rowK (picks s.2 q), V.ref s.1)) ∧ reps.length ≤ j ∧
        (∀ s ∈ reps, s ∈ qs) ∧ (∀ s ∈ qs.take j, ∃ s' ∈ reps, picks s'.2 q = picks s.2 q)) ?_ ?_ ?_ ?_⟩
      · exact ⟨[], _, rfl, .refl, npb.dict, Nat.le_refl _, fun s hs => by simp at hs, fun s hs => by simp at hs⟩
      · rintro j σ Hc _ ⟨_, _, _, f, _⟩
        exact ((fa.trans fab).sub f (fa.tr _ hfs)).sl hb id
      · rintro j y σ Hc hy ⟨reps, x6, rfl, fc, ndc, lnc, subc, covc⟩
        obtain ⟨s, hs, rfl⟩ := map_at hy
        have hsq := List.mem_of_getElem? hs
        have fH := (fa.trans fab).sub fc (fa.tr _ hfs)
        have hjq : j < qs.length := (List.getElem?_eq_some_iff.mp hs).1
        refine ⟨_, rfl, fs, rfl, ⟨_, ndc⟩, _, rfl, _, rfl, s.1, e, s.2, q, rfl, .of (row fH s hsq), .of (fH.ob _ _ te id), fun c hc => by rw [hlen s hsq]; exact hqn c hc, hqs, fun pa Hd hpa fd' rd => ?_⟩
        have ndd := fd'.nd ndc id
        refine ⟨_, rfl, pa, rowK (picks s.2 q), _, rfl, (by rw [rowK_V]; exact rd), ndd, (by rw [List.length_map, sizeLine_eq]; omega), fun v hv => ?_, fun hv He npe => ?_⟩
        · have hin := valV_in hv
          rw [List.map_map] at hin
          obtain ⟨s', hs', e'⟩ := List.mem_map.mp hin
          refine ⟨reps, _, rfl, fc.trans (fd'.weak fun _ z => z.elim), ndd, by omega, subc, fun z hz => ?_⟩
          rcases (mem_take_succ hs).mp hz with hz | rfl
          · exact covc z hz
          · exact ⟨s', hs', rowK_inj e'⟩
        · refine ⟨reps ++ [s], _, rfl, (fc.trans (fd'.weak fun _ z => z.elim)).trans (.put npe ndd rfl), ?_, by rw [List.length_append, List.length_singleton]; omega, fun z hz => ?_, fun z hz => ?_⟩
          · have := npe.dict
            rw [putK_new _ hv] at this
            rw [List.map_append]
            exact this
          · rcases List.mem_append.mp hz with hz | hz
            · exact subc z hz
            · rw [List.mem_singleton.mp hz]; exact hsq
          · rcases (mem_take_succ hs).mp hz with hz | rfl
            · obtain ⟨s', h1, h2⟩ := covc z hz
              exact ⟨s', List.mem_append_left _ h1, h2⟩
            · exact ⟨z, List.mem_append_right _ (List.mem_singleton_self _), rfl⟩
      · rintro σ Hc ⟨reps, x6, rfl, fc, ndc, lnc, subc, covc⟩
        rw [List.length_map] at lnc covc
        rw [List.take_length] at covc
        have fHc := (fa.trans fab).sub fc (fa.tr _ hfs)
        have fac : Fm Non Ha Hc := fab.sub fc hfs
        have ndac := fac.nd nda id
        -- longer = {}
        intro lg Hd hlg npd
        have fcd : Fm Non Hc Hd := .putnew npd hlg
        have fHd := fHc.trans fcd
        have hlH : H lg = none := fHc.tr _ hlg
        have nad := fcd.nd ndac id
        have nsd := fcd.nd ndc id
        have nfl : fd ≠ lg := by obtain ⟨_, _, z⟩ := ndac.ob; exact ne_of_none z hlg
        have nsl : fs ≠ lg := by obtain ⟨_, _, z⟩ := ndc.ob; exact ne_of_none z hlg
        obtain ⟨esd, epd, na⟩ := id nad
        obtain ⟨es1, ep1, n1⟩ := id nsd
        have kin : ∀ k, k ∈ kvs.map (·.1) → k.length = n := fun k hk => ((mema k).mp hk).len
        have rlen : ∀ s ∈ reps, s.2.length = n := fun s hs => hlen s (subc s hs)
        -- for values, chosen in found.items()
        refine ⟨_, rfl, fd, esd, epd, rfl, na.sys, na.ob, for_it (walk_ni na) (fun i2 σ He => ∃ (kvl : List (TKey × V)) (x6 x8 x9 x10 : Option V),
          σ = [some (.int (n : Int)), some (.ref b), some (.ref p), some (.ref fd), some (.ref e), some (.ref fs), x6, some (.ref lg), x8, x9, x10, none, none] ∧ Fm (fun a => a = lg) Hd He ∧ NDict P w He lg kvl ∧ kvl.length ≤ i2 * reps.length ∧
          (∀ k', k' ∈ kvl.map (·.1) ↔ ∃ k ∈ (kvs.take i2).map (·.1), ∃ s ∈ reps, Compat k s.2 q ∧ k' = extK n k s.2 q) ∧ (∀ z ∈ kvl, ∃ a xs, z.2 = .ref a ∧ Tu He a xs ∧ xs.length ≤ i + 1)) ?_ ?_ ?_ ?_⟩
        · exact ⟨[], _, _, _, _, rfl, .refl, npd.dict, Nat.zero_le _, fun k' => by simp, fun z hz => by simp at hz⟩
        · rintro i2 σ He _ ⟨_, _, _, _, _, _, f, _⟩
          exact f.ob _ _ na.ob nfl
        · rintro i2 y σ He Hf hi2 ⟨kvl, x6, x8, x9, x10, rfl, fe, nle, lne, meme, vale⟩ ⟨T, k, v, av, rfl, hT, rfl, hkv, hav⟩
          have hkin : k ∈ kvs.map (·.1) := List.mem_map.mpr ⟨_, List.mem_of_getElem? hkv, rfl⟩
          have hkl := kin k hkin
          obtain ⟨ca, cxs, hvc, hca, hcl⟩ := vala _ (List.mem_of_getElem? hkv)
          simp only at hvc
          subst hvc
          have ft : Fm (fun a => a = lg) He (upd He T (.tup [.ref av, .ref ca])) := .new hT
          have fHf := fe.trans ft
          refine ⟨T, [.ref av, .ref ca], rfl, .of upd_same, rfl, _, _, rfl, _, _, rfl, rfl, ?_⟩
          have keyT : ∀ {H'}, Fm (fun a => a = lg) Hd H' → Tu H' av (k.map oV) := fun f => f.tk _ _ hav
          have chT : ∀ {H'}, Fm (fun a => a = lg) Hd H' → Tu H' ca cxs := fun f => (((fab.sub fc hfs).trans fcd).tk.trans f.tk) _ _ hca
          have rowT : ∀ {H'}, Fm (fun a => a = lg) Hd H' → ∀ s ∈ reps, RowT H' s.1 s.2 := fun f s hs => (fHd.tk.trans f.tk) _ _ (hrow s (subc s hs))
          have teT : ∀ {H'}, Fm (fun a => a = lg) Hd H' → Tu H' e (nV q) := fun f => (fHd.tk.trans f.tk) _ _ te
          -- for row in firsts.values()
          refine ⟨_, rfl, fs, es1, ep1, rfl, n1.sys, (fHf.ob _ _ n1.ob nsl), for_it (walk_nv n1) (fun j σ Hg => ∃ (kvl2 : List (TKey × V)) (x6 x10 : Option V),
            σ = [some (.int (n : Int)), some (.ref b), some (.ref p), some (.ref fd), some (.ref e), some (.ref fs), x6, some (.ref lg), some (.ref av), some (.ref ca), x10, none, none] ∧ Fm (fun a => a = lg) Hd Hg ∧ NDict P w Hg lg kvl2 ∧ kvl2.length ≤ i2 * reps.length + j ∧
            (∀ k', k' ∈ kvl2.map (·.1) ↔ (∃ k ∈ (kvs.take i2).map (·.1), ∃ s ∈ reps, Compat k s.2 q ∧ k' = extK n k s.2 q) ∨ ∃ s ∈ reps.take j, Compat k s.2 q ∧ k' = extK n k s.2 q) ∧ (∀ z ∈ kvl2, ∃ a xs, z.2 = .ref a ∧ Tu Hg a xs ∧ xs.length ≤ i + 1)) ?_ ?_ ?_ ?_⟩
          · refine ⟨kvl, _, _, rfl, fHf, Fm.nd (S := Non) (.new hT) nle id, by omega, fun k' => ?_, fun z hz => ?_⟩
            · rw [meme k']; simp
            · obtain ⟨a, xs, h1, h2, h3⟩ := vale z hz
              exact ⟨a, xs, h1, ft.tk _ _ h2, h3⟩
          · rintro j σ Hg _ ⟨_, _, _, _, f, _⟩
            exact f.ob _ _ n1.ob nsl
          · rintro j y σ Hg _ hj ⟨kvl2, x6, x10, rfl, fg, ng, lg2, memg, valg⟩ ⟨rfl, kk, hjk⟩
            rw [List.length_map] at hj
            obtain ⟨s, hs, ee⟩ := map_at hjk
            injection ee with ee1 ee2
            subst ee2
            have hsr := List.mem_of_getElem? hs
            have rl := rlen s hsr
            refine all_read (e := e) (vk := av) (sr := s.1) (q := q) (k := k) (r := s.2) (n := n) rfl rfl rfl rfl (teT fg) (keyT fg) (rowT fg s hsr) hkl rl hqn hqs (fun hc Hh fh => ?_) (fun hc Hh fh => ?_)
            · refine iteT ?_
              have fgh := fg.trans (fh.weak fun _ z => z.elim)
              refine seq_i (asg_i ?_)
              refine more_read (e := e) (vk := av) (sr := s.1) (q := q) (k := k) (r := s.2) (n := n) rfl rfl rfl rfl rfl (teT fgh) (keyT fgh) (rowT fgh s hsr) hkl rl hn2 fun D Hi hD fi hd => ?_
              have ngi := (fh.trans fi).nd ng id
              refine ⟨_, rfl, lg, rfl, ⟨_, ngi⟩, _, rfl, D, _, rfl, .inl ⟨.of hd, fun t1 ht1 => ?_⟩⟩
              have f1 : Fm Non Hi _ := .new (o := .tup ((extK n k s.2 q).map oV)) ht1
              have fgj := fgh.trans ((fi.trans f1).weak fun _ z => z.elim)
              refine ⟨_, rfl, _, rfl, by show 1 ≤ sizeLine; decide, fun t2 ht2 => ?_⟩
              have f2 : Fm Non _ _ := .new (H := upd Hi t1 (.tup ((extK n k s.2 q).map oV))) (o := .tup [.ref s.1]) ht2
              have fgk := fgj.trans (f2.weak fun _ z => z.elim)
              have ngk := (f1.trans f2).nd ngi id
              have tk1 := f2.ob _ _ (upd_same (H := Hi) (a := t1)) id
              have bnd : kvl2.length < sizeLine := by
                rw [sizeLine_eq]
                have : i2 ≤ 64 ^ i := by omega
                have h64i : 64 ^ i ≤ 64 ^ 2 := Nat.pow_le_pow_right (by decide) (by omega)
                have h1 : i2 * reps.length ≤ 4096 * 64 := Nat.mul_le_mul (by omega) (by omega)
                omega
              have cm : ∀ (H9 : Hp) (ch : Addr) (xs : List V), Fm Non (upd (upd Hi t1 (.tup ((extK n k s.2 q).map oV))) t2 (.tup [.ref s.1])) H9 → Tu H9 ch xs → xs.length ≤ i + 1 → ∀ R : Hp → Prop, (∀ (H10 : Hp) (kvl3 : List (TKey × V)), Fm (fun a => a = lg) Hd H10 → NDict P w H10 lg kvl3 →
                  kvl3.length ≤ i2 * reps.length + (j + 1) → (∀ k', k' ∈ kvl3.map (·.1) ↔ (∃ k ∈ (kvs.take i2).map (·.1), ∃ s ∈ reps, Compat k s.2 q ∧ k' = extK n k s.2 q) ∨ ∃ s ∈ reps.take (j + 1), Compat k s.2 q ∧ k' = extK n k s.2 q) →
                  (∀ z ∈ kvl3, ∃ a xs, z.2 = .ref a ∧ Tu H10 a xs ∧ xs.length ≤ i + 1) → R H10) → ∃ (b : Addr) (k0 : TKey) (kvs0 : List (TKey × V)), V.ref t1 = V.ref b ∧ H9 b = some (.tup (k0.map oV)) ∧ NDict P w H9 lg kvs0 ∧ kvs0.length < sizeLine ∧ (∀ v, valV kvs0 k0 = some v → R H9) ∧
                  (valV kvs0 k0 = none → ∀ H10, NPut P w H9 lg (putK kvs0 k0 (.ref ch)) H10 → R H10) := by
                intro H9 ch xs f9 hch hxs R kR
                have ng9 := f9.nd ngk id
                have fg9 := fgk.trans (f9.weak fun _ z => z.elim)
                have keys : ∀ (k' : TKey), ((∃ k ∈ (kvs.take i2).map (·.1), ∃ s ∈ reps, Compat k s.2 q ∧ k' = extK n k s.2 q) ∨ ∃ s ∈ reps.take (j + 1), Compat k s.2 q ∧ k' = extK n k s.2 q) ↔ k' ∈ kvl2.map (·.1) ∨ k' = extK n k s.2 q := by
                  intro k'
                  rw [memg k']
                  constructor
                  · rintro (h | ⟨s', h1, h2⟩)
                    · exact .inl (.inl h)
                    · rcases (mem_take_succ hs).mp h1 with h1 | rfl
                      · exact .inl (.inr ⟨s', h1, h2⟩)
                      · exact .inr h2.2
                  · rintro ((h | ⟨s', h1, h2⟩) | h)
                    · exact .inl h
                    · exact .inr ⟨s', (mem_take_succ hs).mpr (.inl h1), h2⟩
                    · exact .inr ⟨s, (mem_take_succ hs).mpr (.inr rfl), hc, h⟩
                have old : ∀ {H10}, TK H9 H10 → ∀ z ∈ kvl2, ∃ a xs, z.2 = .ref a ∧ Tu H10 a xs ∧ xs.length ≤ i + 1 := fun t z hz => by
                  obtain ⟨a, xs, h1, h2, h3⟩ := valg z hz
                  exact ⟨a, xs, h1, t _ _ (f9.tk _ _ ((f1.trans f2).tk _ _ ((fh.trans fi).tk _ _ h2))), h3⟩
                refine ⟨t1, extK n k s.2 q, kvl2, rfl, f9.ob _ _ tk1 id, ng9, bnd, fun v hv => ?_, fun hv H10 np => ?_⟩
                · refine kR H9 kvl2 fg9 ng9 (by omega) (fun k' => ?_) (old (TK.refl _))
                  rw [keys k']
                  exact ⟨.inl, fun h => h.elim id fun h => by rw [h]; exact valV_in hv⟩
                · refine kR H10 _ (fg9.trans (.put np ng9 rfl)) np.dict (by have := length_putK kvl2 (extK n k s.2 q) (V.ref ch); omega) (fun k' => ?_) fun z hz => ?_
                  · rw [keys k', mem_putK]
                  · have tt := (Fm.put (S := fun a => a = lg) np ng9 rfl).tk
                    rcases mem_putK_ent hz hv with hz | rfl
                    · exact old tt z hz
                    · exact ⟨ch, xs, rfl, tt _ _ hch, hxs⟩
              refine ⟨ca, t2, cxs, [.ref s.1], rfl, rfl, .of (chT fgk), .of upd_same, by rw [List.length_singleton, sizeLine_eq]; omega, fun hx => ?_, fun hx hy => absurd hy (by simp), fun hx hy t3 ht3 => ?_⟩
              · exact cm _ t2 [.ref s.1] .refl upd_same (by show 1 ≤ i + 1; omega) _ fun H10 kvl3 a b c d e => ⟨kvl3, _, _, rfl, a, b, c, d, e⟩
              · exact cm _ t3 _ (.new ht3) upd_same (by rw [List.length_append, List.length_singleton]; omega) _ fun H10 kvl3 a b c d e => ⟨kvl3, _, _, rfl, a, b, c, d, e⟩
            · refine iteF ?_
              refine ⟨kvl2, _, _, rfl, fg.trans (fh.weak fun _ z => z.elim), fh.nd ng id, by omega, fun k' => ?_, fun z hz => ?_⟩
              · rw [memg k']
                constructor
                · rintro (h | ⟨s', h1, h2⟩)
                  · exact .inl h
                  · exact .inr ⟨s', (mem_take_succ hs).mpr (.inl h1), h2⟩
                · rintro (h | ⟨s', h1, h2⟩)
                  · exact .inl h
                  · rcases (mem_take_succ hs).mp h1 with h1 | rfl
                    · exact .inr ⟨s', h1, h2⟩
                    · exact absurd h2.1 hc
              · obtain ⟨a, xs, h1, h2, h3⟩ := valg z hz
                exact ⟨a, xs, h1, fh.tk _ _ h2, h3⟩
          · rintro σ Hg ⟨kvl2, x6, x10, rfl, fg, ng, lg2, memg, valg⟩
            rw [List.length_map] at lg2
            refine ⟨kvl2, _, _, _, _, rfl, fg, ng, by rw [Nat.succ_mul]; rw [List.length_map] at *; exact lg2, fun k' => ?_, valg⟩
            rw [memg k', List.length_map, List.take_length]
            constructor
            · rintro (⟨k0, h1, h2⟩ | h)
              · obtain ⟨z, hz, rfl⟩ := List.mem_map.mp h1
                exact ⟨z.1, List.mem_map.mpr ⟨z, (mem_take_succ hkv).mpr (.inl hz), rfl⟩, h2⟩
              · exact ⟨k, List.mem_map.mpr ⟨_, (mem_take_succ hkv).mpr (.inr rfl), rfl⟩, h⟩
            · rintro ⟨k0, h1, h2⟩
              obtain ⟨z, hz, rfl⟩ := List.mem_map.mp h1
              rcases (mem_take_succ hkv).mp hz with hz | rfl
              · exact .inl ⟨z.1, List.mem_map.mpr ⟨z, hz, rfl⟩, h2⟩
              · exact .inr h2
        · rintro σ He ⟨kvl, x6, x8, x9, x10, rfl, fe, nle, lne, meme, vale⟩
          rw [List.take_length] at meme
          -- found = longer
          refine ⟨_, rfl, lg, kvl, _, _, _, _, _, _, _, rfl, fHd.sub fe hlH, nle, ?_, fun k' => ?_, vale⟩
          · rw [Nat.pow_succ]
            exact Nat.le_trans lne (Nat.mul_le_mul lna (by omega))
          · have e1 : ps.take (i + 1) = ps.take i ++ [q] := by rw [List.take_add_one, hq]; rfl
            rw [meme k', e1, reach_step (reps := reps.map (·.2)) hqn (fun q' hq' => hlt q' (List.mem_of_mem_take hq')) (fun r hr => ?_) (fun r hr => ?_)]
            · constructor
              · rintro ⟨k0, h1, s, hs, h2⟩
                exact ⟨k0, (mema k0).mp h1, s.2, List.mem_map.mpr ⟨s, hs, rfl⟩, h2⟩
              · rintro ⟨k0, h1, r, hr, h2⟩
                obtain ⟨s, hs, rfl⟩ := List.mem_map.mp hr
                exact ⟨k0, (mema k0).mpr h1, s, hs, h2⟩
            · obtain ⟨s, hs, rfl⟩ := List.mem_map.mp hr
              exact List.mem_map.mpr ⟨s, subc s hs, rfl⟩
            · obtain ⟨s, hs, rfl⟩ := List.mem_map.mp hr
              obtain ⟨s', h1, h2⟩ := covc s hs
              exact ⟨s'.2, List.mem_map.mpr ⟨s', h1, rfl⟩, h2⟩
    · rintro σ Ha ⟨fd, kvs, x4, x5, x6, x7, x8, x9, x10, rfl, fa, nda, lna, mema, vala⟩
      have hl : (es.map V.ref).length = ps.length := by rw [List.length_map]; exact Paired.length pe
      rw [hl] at lna mema vala
      rw [List.take_length] at mema
      -- known
      refine ⟨_, rfl, b, rfl, ⟨_, fa.sl hb id⟩, fun kd hkd hsys => ?_⟩
      refine rowdict (walk_listR (K := K) (b := b) (qs := qs)) (fun H f => (fa.trans f).sl hb id) (row fa) ?_ ?_ hkd hsys (by omega) fun Hb rsk fb dk mk lk => ?_
      · rfl
      · show 6 < 13; decide
      have fab := fa.trans fb
      obtain ⟨esd, epd, na⟩ := fb.nd nda id
      obtain ⟨kvk, ndk, ek⟩ := id dk
      refine ⟨_, rfl, fd, esd, epd, rfl, na.sys, na.ob, fun D hD hsysD => ?_⟩
      have np0 : NPut P w Hb D [] (upd Hb D (rawD D #[] 0)) := nput_new hsysD
      have hDH : H D = none := fab.tr _ hD
      refine dc_it (walk_ni na) (fun i Hc => ∃ kv : List (TKey × V), Fm Non Hb Hc ∧ NDict P w Hc D kv ∧ kv.length ≤ i ∧ ∀ k, k ∈ kv.map (·.1) ↔ k ∈ (kvs.take i).map (·.1) ∧ k ∉ kvk.map (·.1)) rfl ⟨[], .putnew np0 hD, np0.dict, Nat.le_refl _, fun k => by simp⟩ (fun i H _ ⟨_, f, _⟩ => f.ob _ _ na.ob id) ?_ ?_
      · rintro i x Hc Hd hi ⟨kv, fc, ndv, lnv, mv⟩ ⟨T, k, v, av, rfl, hT, rfl, hkv, hav⟩
        have ft : Fm Non Hc (upd Hc T (.tup [.ref av, v])) := .new hT
        have fct := fc.trans ft
        refine ⟨T, [.ref av, v], rfl, .of upd_same, rfl, _, _, rfl, _, _, rfl, rfl, rfl, ?_⟩
        refine ⟨_, rfl, _, rfl, av, kd, k, kvk, rfl, rfl, fct.tk _ _ hav, fct.nd ndk id, _, rfl, ?_⟩
        have step : ∀ k', k' ∈ (kvs.take (i + 1)).map (·.1) ↔ k' ∈ (kvs.take i).map (·.1) ∨ k' = k := fun k' => by
          rw [List.take_add_one, hkv]; simp
        cases hvk : valV kvk k with
        | some u =>
          have hin := valV_in hvk
          refine ⟨kv, fct, ft.nd ndv id, by omega, fun k' => ?_⟩
          rw [mv k', step k']
          constructor
          · rintro ⟨h1, h2⟩; exact ⟨.inl h1, h2⟩
          · rintro ⟨h1 | rfl, h2⟩
            · exact ⟨h1, h2⟩
            · exact absurd hin h2
        | none =>
          have hout := valV_not hvk
          have e4 : (64 : Nat) ^ ps.length ≤ 64 ^ 3 := Nat.pow_le_pow_right (by decide) h3
          refine ⟨_, rfl, _, rfl, av, k, kv, rfl, fct.tk _ _ hav, ft.nd ndv id, by rw [sizeLine_eq]; omega, fun H9 np => ?_⟩
          refine ⟨_, (fct.sub (.put np (ft.nd ndv id) rfl) hD), np.dict, by have := length_putK kv k v; omega, fun k' => ?_⟩
          rw [mem_putK, mv k', step k']
          constructor
          · rintro (⟨h1, h2⟩ | rfl)
            · exact ⟨.inl h1, h2⟩
            · exact ⟨.inr rfl, hout⟩
          · rintro ⟨h1 | rfl, h2⟩
            · exact .inl ⟨h1, h2⟩
            · exact .inr rfl
      · rintro Hc ⟨kv, fc, ndv, lnv, mv⟩
        rw [List.take_length] at mv
        have rk : ∀ k' ∈ kv.map (·.1), rowK (k'.map fun o => o.getD 0) = k' := fun k' hk' => by
          obtain ⟨r, e, _⟩ := reach_rows hcov hlt ((mema k').mp ((mv k').mp hk').1)
          rw [e]; simp [rowK]
        have e1 : kv.map (·.1) = ((kv.map (·.1)).map fun k' => k'.map fun o => o.getD 0).map rowK := by
          rw [List.map_map]
          conv => lhs; rw [← List.map_id (kv.map (·.1))]
          exact List.map_congr_left fun k' hk' => (rk k' hk').symm
        have mk' : ∀ r, rowK r ∈ kvk.map (·.1) ↔ r ∈ qs.map (·.2) := fun r => by
          rw [ek, ← mk r]
          constructor
          · intro h
            obtain ⟨y, hy, e⟩ := List.mem_map.mp h
            rw [← rowK_inj e]; exact hy
          · exact fun h => List.mem_map.mpr ⟨r, h, rfl⟩
        refine k D Hc _ kv (fab.trans fc) hDH ndv e1 fun r => ?_
        have hin : r ∈ ((kv.map (·.1)).map fun k' => k'.map fun o => o.getD 0) ↔ rowK r ∈ kv.map (·.1) := by
          constructor
          · intro h
            obtain ⟨k', h1, rfl⟩ := List.mem_map.mp h
            rw [rk k' h1]; exact h1
          · intro h
            exact List.mem_map.mpr ⟨rowK r, h, by simp [rowK, Function.comp_def]⟩
        rw [hin, mv, mk', mema]
        constructor
        · rintro ⟨h1, h2⟩
          obtain ⟨r', e, h4, h5⟩ := reach_rows hcov hlt h1
          rw [rowK_inj e]
          rw [rowK_inj e] at h2
          exact ⟨h4, h2, h5⟩
        · rintro ⟨h1, h2, h4⟩
          exact ⟨rows_reach hcov hlt h1 h4, h2⟩
end
end Nor
end
section
/-! A chase object: its fields, what stands in the heap. -/
namespace Nor
open PySem L2 L2.NW
/-! ### fields -/
theorem look_zip : ∀ (ns : List Str) (vs : List V) (i : Nat) (m : Str) (v : V), ns.Nodup → ns[i]? = some m → vs[i]? = some v → (ns.zip vs).lookup m = some v
  | [], _, _, _, _, _, h, _ => by simp at h
  | _ :: _, [], _, _, _, _, _, h => by simp at h
  | x :: ns, y :: vs, 0, m, v, _, h1, h2 => by simp at h1 h2; subst h1; subst h2; simp [List.lookup]
  | x :: ns, y :: vs, i + 1, m, v, nd, h1, h2 => by
    simp at h1 h2
    have hne : (m == x) = false := beq_eq_false_iff_ne.mpr fun e => (List.nodup_cons.mp nd).1 (by rw [← e]; exact List.mem_of_getElem? h1)
    rw [List.zip_cons_cons, List.lookup_cons, hne]
    exact look_zip ns vs i m v (List.nodup_cons.mp nd).2 h1 h2
theorem look_zip_none : ∀ (ns : List Str) (vs : List V) (m : Str), m ∉ ns → (ns.zip vs).lookup m = none
  | [], _, _, _ => rfl
  | _ :: _, [], _, _ => rfl
  | x :: ns, y :: vs, m, h => by
    have hne : (m == x) = false := beq_eq_false_iff_ne.mpr fun e => h (by rw [e]; exact List.mem_cons_self)
    rw [List.zip_cons_cons, List.lookup_cons, hne]
    exact look_zip_none ns vs m fun z => h (List.mem_cons_of_mem _ z)
theorem putF_zip : ∀ (ns : List Str) (vs : List V) (i : Nat) (m : Str) (y : V), ns.Nodup → ns[i]? = some m → i < vs.length → putF m y (ns.zip vs) = ns.zip (vs.set i y)
  | [], _, _, _, _, _, h, _ => by simp at h
  | _ :: _, [], _, _, _, _, _, h => by simp at h
  | x :: ns, z :: vs, 0, m, y, _, h1, _ => by
    simp at h1; subst h1
    show (if x = x then _ else _) = _
    rw [if_pos rfl]; rfl
  | x :: ns, z :: vs, i + 1, m, y, nd, h1, h2 => by
    simp at h1 h2
    have hne : ¬ x = m := fun e => (List.nodup_cons.mp nd).1 (by rw [e]; exact List.mem_of_getElem? h1)
    show (if x = m then _ else _) = _
    rw [if_neg hne]
    exact congrArg ((x, z) :: ·) (putF_zip ns vs i m y (List.nodup_cons.mp nd).2 h1 h2)
theorem putF_new : ∀ (fs : List (Str × V)) (m : Str) (y : V), m ∉ fs.map (·.1) → putF m y fs = fs ++ [(m, y)]
  | [], _, _, _ => rfl
  | p :: fs, m, y, h => by
    have hne : ¬ p.1 = m := fun e => h (by rw [← e]; exact List.mem_cons_self)
    show (if p.1 = m then _ else _) = _
    rw [if_neg hne, putF_new fs m y fun z => h (List.mem_cons_of_mem _ z)]; rfl
abbrev fN : List Str := ["scheme", "book", "tables", "seen", "became", "steps", "clashed"]
theorem fNd : fN.Nodup := by decide +kernel
def flds (sc bk tl sd bd sl : Addr) (c : Bool) : List (Str × V) := fN.zip [.ref sc, .ref bk, .ref tl, .ref sd, .ref bd, .ref sl, .bl c]
section
variable {sc bk tl sd bd sl tl' : Addr} {c c' : Bool}
theorem lkSc : (flds sc bk tl sd bd sl c).lookup ("scheme" : Str) = some (.ref sc) := look_zip fN _ 0 _ _ fNd rfl rfl
theorem lkBk : (flds sc bk tl sd bd sl c).lookup ("book" : Str) = some (.ref bk) := look_zip fN _ 1 _ _ fNd rfl rfl
theorem lkTb : (flds sc bk tl sd bd sl c).lookup ("tables" : Str) = some (.ref tl) := look_zip fN _ 2 _ _ fNd rfl rfl
theorem lkSn : (flds sc bk tl sd bd sl c).lookup ("seen" : Str) = some (.ref sd) := look_zip fN _ 3 _ _ fNd rfl rfl
theorem lkBc : (flds sc bk tl sd bd sl c).lookup ("became" : Str) = some (.ref bd) := look_zip fN _ 4 _ _ fNd rfl rfl
theorem lkSt : (flds sc bk tl sd bd sl c).lookup ("steps" : Str) = some (.ref sl) := look_zip fN _ 5 _ _ fNd rfl rfl
theorem lkCl : (flds sc bk tl sd bd sl c).lookup ("clashed" : Str) = some (.bl c) := look_zip fN _ 6 _ _ fNd rfl rfl
theorem lkNo {m : Str} (h : m ∉ fN) : (flds sc bk tl sd bd sl c).lookup m = none := look_zip_none fN _ m h
theorem putTb : putF "tables" (.ref tl') (flds sc bk tl sd bd sl c) = flds sc bk tl' sd bd sl c := putF_zip fN _ 2 _ _ fNd rfl (by show 2 < 7; decide)
theorem putCl : putF "clashed" (.bl c') (flds sc bk tl sd bd sl c) = flds sc bk tl sd bd sl c' := putF_zip fN _ 6 _ _ fNd rfl (by show 6 < 7; decide)
theorem flds_len : (flds sc bk tl sd bd sl c).length < 1000 := by show 7 < 1000; decide
end
/-! ### the problem -/
structure PB where
  n : Nat
  wf : Nat → Nat
  dl : List Dep
  T0 : Store
def DepSm : Dep → Prop
  | .settles _ l r => l.length ≤ 100 ∧ r.length ≤ 100
  | .deals _ l r => l.length ≤ 100 ∧ r.length ≤ 100
  | .joins _ ps => ps.length ≤ 3 ∧ ∀ p ∈ ps, p.length ≤ 100
  | .within _ cs _ os => cs.length ≤ 100 ∧ os.length ≤ 100
structure PB.Ok (A : PB) : Prop where
  n3 : A.n ≤ 3
  n1 : 1 ≤ A.n
  wid : ∀ t, t < A.n → 1 ≤ A.wf t ∧ A.wf t ≤ 4
  dep : ∀ d ∈ A.dl, DepOk A.n A.wf d
  small : ∀ d ∈ A.dl, DepSm d
  few : A.dl.length ≤ 100
  wf0 : WF A.n A.wf A.T0
  bd : ∀ k T, Steps A.wf A.dl k A.T0 T → k ≤ 2000 ∧ ∀ t (l : List Row), t < A.n → l.Nodup → (∀ r ∈ l, T t r) → l.length ≤ 64
/-- scheme and book -/
structure Sta (A : PB) (H : Hp) (sc bk : Addr) : Prop where
  sch : Tu H sc ((List.range A.n).map fun t => V.int (A.wf t : Int))
  bok : ∃ es : List Addr, Tu H bk (es.map V.ref) ∧ Paired (DepAt H) es A.dl
theorem Sta.tk {A : PB} {H H' : Hp} {sc bk : Addr} (x : Sta A H sc bk) (t : TK H H') : Sta A H' sc bk := ⟨t _ _ x.sch, let ⟨es, h, p⟩ := x.bok; ⟨es, t _ _ h, paired_map p fun _ _ z => z.tk t⟩⟩
theorem Sta.width {A : PB} {H : Hp} {sc bk : Addr} (x : Sta A H sc bk) {t : Nat} (h : t < A.n) : ((List.range A.n).map fun t => V.int (A.wf t : Int))[t]? = some (V.int (A.wf t : Int)) := by simp [h]
theorem paired_at2 {α β : Type} {F : α → β → Prop} {l : List α} {m : List β} (p : Paired F l m) : ∀ {i : Nat} {b : β}, m[i]? = some b → ∃ a, l[i]? = some a ∧ F a b := by
  induction p with
  | nil => intro i q h; simp at h
  | @cons a b as bs hab t ih =>
    intro i q h
    cases i with
    | zero => simp at h; subst h; exact ⟨a, by simp, hab⟩
    | succ i => simp at h; obtain ⟨x, h1, h2⟩ := ih h; exact ⟨x, by simpa using h1, h2⟩
theorem Sta.dep {A : PB} {H : Hp} {sc bk : Addr} (x : Sta A H sc bk) {i : Nat} {d : Dep} (h : A.dl[i]? = some d) : ∃ (es : List Addr) (e : Addr), Tu H bk (es.map V.ref) ∧ (es.map V.ref)[i]? = some (.ref e) ∧ DepAt H e d := by
  obtain ⟨es, h1, p⟩ := x.bok
  obtain ⟨e, h2, h3⟩ := paired_at2 p h
  exact ⟨es, e, h1, by rw [List.getElem?_map, h2]; rfl, h3⟩
/-! ### the object -/
structure CS where
  tl : Addr
  sd : Addr
  bd : Addr
  sl : Addr
  ds : List Addr
  Tb : List (List Row)
  seen : List (Key × V)
  bec : List (Key × V)
  stp : List V
  cl : Bool
def stOf (Tb : List (List Row)) : Store := fun t r => ∃ rs, Tb[t]? = some rs ∧ r ∈ rs
structure ChAt (P : Program) (w : World) (C : Addr) (A : PB) (sc bk : Addr) (p dx : Addr) (H : Hp) (s : CS) : Prop where
  ob : H p = some (.ins C dx (flds sc bk s.tl s.sd s.bd s.sl s.cl))
  tb : H s.tl = some (.lst (s.ds.map V.ref))
  rows : Paired (RowsD P w H) s.ds s.Tb
  sn : H s.sd = some (.dK s.seen)
  bc : H s.bd = some (.dK s.bec)
  st : H s.sl = some (.lst s.stp)
  sta : Sta A H sc bk
  tlen : s.Tb.length = A.n
  nd : s.ds.Nodup
  dif : s.sd ≠ s.bd
  dif2 : s.tl ≠ s.sl
  inseen : ∀ t r v, stOf s.Tb t r → v ∈ r → (Sum.inl v : Key) ∈ s.seen.map (·.1)
  wid : WF A.n A.wf (stOf s.Tb)
/-- what it may write to -/
def fp (p : Addr) (s : CS) : Addr → Prop := fun a => a = p ∨ a = s.tl ∨ a = s.sd ∨ a = s.bd ∨ a = s.sl ∨ a ∈ s.ds
/-- how far it is -/
structure Run (A : PB) (k : Nat) (s : CS) : Prop where
  steps : Steps A.wf A.dl k A.T0 (stOf s.Tb)
  lst : s.stp.length ≤ k + 1
  lsn : s.seen.length ≤ 10000 + 4 * k
  lbc : s.bec.length ≤ k
  clash : s.cl = true → Clash A.dl (stOf s.Tb)
  open' : s.cl = false → s.stp.length ≤ k
section
variable {P : Program} {w : World} {C : Addr} {A : PB} {sc bk p dx : Addr} {H H' : Hp} {s s' : CS} {k : Nat}
theorem ChAt.fm (x : ChAt P w C A sc bk p dx H s) (f : Fm Non H H') : ChAt P w C A sc bk p dx H' s :=
  ⟨f.ob _ _ x.ob id, f.ob _ _ x.tb id, paired_map x.rows fun _ _ z => z.fm f id, f.ob _ _ x.sn id, f.ob _ _ x.bc id, f.ob _ _ x.st id, x.sta.tk f.tk, x.tlen, x.nd, x.dif, x.dif2, x.inseen, x.wid⟩
theorem ChAt.table (x : ChAt P w C A sc bk p dx H s) {t : Nat} (h : t < A.n) : ∃ d rs, (s.ds.map V.ref)[t]? = some (.ref d) ∧ s.ds[t]? = some d ∧ s.Tb[t]? = some rs ∧ RowsD P w H d rs := by
  have h1 : s.Tb[t]? = some (s.Tb[t]'(by rw [x.tlen]; exact h)) := List.getElem?_eq_getElem _
  obtain ⟨d, h2, h3⟩ := paired_at2 x.rows h1
  exact ⟨d, _, by rw [List.getElem?_map, h2]; rfl, h2, h1, h3⟩
theorem ChAt.rowsLen (x : ChAt P w C A sc bk p dx H s) (ok : A.Ok) (r : Run A k s) {t : Nat} {rs : List Row} (h : s.Tb[t]? = some rs) (nd : rs.Nodup) : rs.length ≤ 64 ∧ ∀ q ∈ rs, q.length = A.wf t := by
  have ht : t < A.n := by rw [← x.tlen]; exact (List.getElem?_eq_some_iff.mp h).1
  exact ⟨(ok.bd k _ r.steps).2 t rs ht nd fun q hq => ⟨rs, h, hq⟩, fun q hq => (x.wid t q ⟨rs, h, hq⟩).2⟩
theorem ChAt.ne1 (x : ChAt P w C A sc bk p dx H s) : s.tl ≠ p ∧ s.sd ≠ p ∧ s.bd ≠ p ∧ s.sl ≠ p ∧ s.tl ≠ s.sd ∧ s.tl ≠ s.bd ∧ s.sl ≠ s.sd ∧ s.sl ≠ s.bd :=
  ⟨ne_of x.tb x.ob (by intro z; cases z), ne_of x.sn x.ob (by intro z; cases z), ne_of x.bc x.ob (by intro z; cases z), ne_of x.st x.ob (by intro z; cases z), ne_of x.tb x.sn (by intro z; cases z), ne_of x.tb x.bc (by intro z; cases z),
    ne_of x.st x.sn (by intro z; cases z), ne_of x.st x.bc (by intro z; cases z)⟩
theorem rawD_nl {d : Addr} {es : Array DictEntry} {ep : Nat} : (∀ xs, rawD d es ep ≠ .lst xs) ∧ (∀ xs, rawD d es ep ≠ .dK xs) ∧ (∀ a b c, rawD d es ep ≠ .ins a b c) := ⟨fun _ z => (by cases z), fun _ z => (by cases z), fun _ _ _ z => (by cases z)⟩
theorem ChAt.neD (x : ChAt P w C A sc bk p dx H s) {d : Addr} (h : d ∈ s.ds) : d ≠ p ∧ d ≠ s.tl ∧ d ≠ s.sd ∧ d ≠ s.bd ∧ d ≠ s.sl := by
  obtain ⟨i, hi⟩ := List.getElem?_of_mem h
  obtain ⟨rs, _, z⟩ := paired_at x.rows hi
  obtain ⟨es, ep, z⟩ := z.ob
  exact ⟨ne_of z x.ob (rawD_nl.2.2 _ _ _), ne_of z x.tb (rawD_nl.1 _), ne_of z x.sn (rawD_nl.2.1 _), ne_of z x.bc (rawD_nl.2.1 _), ne_of z x.st (rawD_nl.1 _)⟩
end
/-- what the walk asks of the class and the names -/
structure Txt (K : PySem.W.Frag) (mg : Str → Option Value) (C : Addr) : Prop where
  cl : Cls K C
  nA : ∀ f ∈ fN, NoAttr K C f
  mgC : mg "Chase" = some (.ref C)
section
variable {K : PySem.W.Frag} {mg : Str → Option Value} {C : Addr}
theorem Txt.nSc (T : Txt K mg C) : NoAttr K C "scheme" := T.nA _ (by simp)
theorem Txt.nBk (T : Txt K mg C) : NoAttr K C "book" := T.nA _ (by simp)
theorem Txt.nTb (T : Txt K mg C) : NoAttr K C "tables" := T.nA _ (by simp)
theorem Txt.nSn (T : Txt K mg C) : NoAttr K C "seen" := T.nA _ (by simp)
theorem Txt.nBc (T : Txt K mg C) : NoAttr K C "became" := T.nA _ (by simp)
theorem Txt.nSt (T : Txt K mg C) : NoAttr K C "steps" := T.nA _ (by simp)
theorem Txt.nCl (T : Txt K mg C) : NoAttr K C "clashed" := T.nA _ (by simp)
end
/-- a method of it -/
structure OwnM (K : PySem.W.Frag) (C : Addr) (m : Str) (f : Addr) (fd : FuncData) (ps : List Str) : Prop where
  mt : Meth K C m f
  bd : Binds K fd ps []
end Nor
end
section
/-! replace. -/
namespace Nor
open PySem L2 L2.NW
section
variable {P : Program} {w : World} {K : PySem.W.Frag} {mg : Str → Option Value} {base : Heap}
def rTup (K : PySem.W.Frag) : List V → Hp → VK → Prop := fun xs H Q => ∃ p ys, xs = [V.ref p] ∧ ((SqL K H p ys ∧ ∀ l, H l = none → Q (.ref l) (upd H l (.tup ys))) ∨ (SqT K H p ys ∧ Q (.ref p) H))
theorem cr_tup {X : Cx} : CallR X (.type "tuple") (rTup X.K) := call_tuple_of
theorem rows_fm {S : Addr → Prop} {H H' : Hp} : ∀ {l : List Addr} {m : List (List Row)}, Paired (RowsD P w H) l m → Fm S H H' → (∀ d ∈ l, ¬ S d) → Paired (RowsD P w H') l m := by
  intro l m q f
  induction q with
  | nil => intro _; exact .nil
  | cons h t ih => intro hd; exact .cons (h.fm f (hd _ List.mem_cons_self)) (ih fun d hd' => hd d (List.mem_cons_of_mem _ hd'))
theorem sub_read {σ : St} {H : Hp} {Q : VK} {sr : Addr} {r : Row} {a b : Int} (h1 : σ[1]? = some (some (.int a))) (h2 : σ[2]? = some (some (.int b))) (h6 : σ[6]? = some (some (.ref sr))) (hz : 7 < σ.length) (tr : RowT H sr r) (hl : r.length ≤ 100)
    (h : ∀ p H', H p = none → Fm Non H H' → RowT H' p (subRow a b r) → Q (.ref p) H') : tCB (rTup K) (tCons (tLc (iTup K (tVar 6)) (gName 7) tYes (tIf (tTest (tOp rEq (tVar 7) (tVar 1))) (tVar 2) (tVar 7)) [7]) tNil) σ H Q := by
  refine ⟨_, h6, sr, rfl, ⟨_, .of tr⟩, fun D hD => ?_⟩
  refine lc_acc (walk_tup (K := K) (xs := r.map V.int)) (S := Non) (fun i acc H' => acc = (subRow a b (r.take i)).map V.int) (by rw [List.length_map]; omega) hD id (fun x => by simp [wipe]) (fun H' f => .of (f.ob _ _ tr id)) (fun i acc H1 H2 e _ => e) rfl ?_ ?_
  · rintro i x acc H2 H3 hi f rfl ⟨rfl, hx⟩
    refine ⟨.refl, fun _ _ Qt Qf kt kf => ?_⟩
    obtain ⟨v, hv, rfl⟩ := map_at hx
    refine ⟨.int v, (by simp [wipe, hz]), .int a, (by simp [wipe, h1]), rfl, _, rfl, ?_⟩
    have e : (subRow a b (r.take i)).map V.int ++ [V.int (sub a b v)] = (subRow a b (r.take (i + 1))).map V.int := by
      rw [List.take_add_one, hv]; simp [subRow]
    refine ite2 (fun hc => ?_) (fun hc => ?_)
    · have hva : v = a := by simpa using hc
      subst hva
      refine ⟨.int b, (by simp [wipe, h2]), kt _ _ .refl ?_⟩
      rw [← e]; simp [sub]
    · have hva : ¬ v = a := by simpa using hc
      refine ⟨.int v, (by simp [wipe, hz]), kt _ _ .refl ?_⟩
      rw [← e]; simp [sub, hva]
  · rintro acc H2 f hl' hd rfl
    rw [List.length_map, List.take_length] at *
    refine ⟨D, _, rfl, .inl ⟨.of hd, fun p hp => ?_⟩⟩
    exact h p _ (f.tr p hp) (f.trans (.new hp)) upd_same
abbrev nReplace : List Str := ["self", "lesser", "greater", "tables", "rows", "changed", "row", "value"]
theorem scReplace : FnScope nReplace ["self", "lesser", "greater"] (defScope sReplace) := ⟨rfl, rfl, rfl, by decide +kernel, rfl, by decide +kernel, by decide +kernel⟩
def spReplace (P : Program) (w : World) (C : Addr) (A : PB) : Sp := fun vs H Q _ => ∃ (sc bk p dx : Addr) (s : CS) (a b : Int), vs = [.ref p, .int a, .int b] ∧ ChAt P w C A sc bk p dx H s ∧ (∀ rs ∈ s.Tb, rs.length ≤ 64) ∧ s.bec.length < 100000 ∧ (Sum.inl b : Key) ∈ s.seen.map (·.1) ∧ A.n ≤ 3 ∧ (∀ t, t < A.n → A.wf t ≤ 4) ∧
  ∀ (H' : Hp) (s' : CS), Fm (fp p s) H H' → ChAt P w C A sc bk p dx H' s' → (∀ x, fp p s' x → fp p s x ∨ H x = none) → stOf s'.Tb = subStore a b (stOf s.Tb) → s'.seen = s.seen → s'.bec.length ≤ s.bec.length + 1 → s'.stp = s.stp → s'.cl = s.cl → Q .non H'
def sclL (l : List (Str × NameKind)) : Scope := { kind := .function, names := l, isGenerator := false, isCoroutine := false }
theorem ok_replace {C f : Addr} {fd : FuncData} {A : PB} (T : Txt K mg C) (F : Fun K "replace" "Chase.replace" sReplace f fd) (mt : mg "tuple" = none) : FnOk P w K mg base CX0 1 f fd ["self", "lesser", "greater"] (spReplace P w C A) := by
  refine F.ok scReplace (fun vs H Q E h => ?_) (fun cdv Ar outer sh H vs Q E hr h => ?_)
  · obtain ⟨sc, bk, p, dx, s, a, b, rfl, _⟩ := h
    rfl
  · obtain ⟨sc, bk, p, dx, s, a, b, rfl, X, h64, hbec, hsn, hn3, hw4, k⟩ := h
    have nd := scReplace.nd
    have hu := hu_of hr
    have hu0 := Nat.lt_of_succ_lt hu
    refine ⟨_, pss_cons (ps_dput hu (pe_fld (pv 0) rfl) (pv 1) (pv 2) rfl)
      (pss_cons (ps_set (i := 3) nd rfl (Or.inl rfl) (pe_lst pa_nil))
      (pss_cons (ps_for PassesOwn.never rfl (pi_list (pe_fld (pv 0) rfl)) (pg_name (i := 4) nd rfl (Or.inl rfl))
        (pss_cons (ps_setLc (i := 5) (own := [("row", 6)]) (g := gName 6) (tt := tYes) rfl nd rfl rfl (sw_true rfl rfl rfl (by decide +kernel)) (pi_nkeys (pv 4)) (blkOk_by (N := nReplace) (sc := defScope sReplace) (by decide +kernel)) (fun _ _ _ _ _ => pg_name (i := 6) nd rfl (Or.inl rfl)) (fun _ _ _ _ _ => pts_nil)
          (fun _ _ _ _ _ => pe_callTy (r := rTup K) cr_tup rfl mt (by rfl) (pa_cons (pe_lc (wi := iTup K (tVar 6)) (own := [("value", 7)]) (g := gName 7) (tt := tYes) rfl nd (pi_tup (pv 6)) (blkOk_by (N := nReplace) (sc := sclL [(".0", .local), ("row", .local), ("tuple", .globalImplicit), ("greater", .cell), ("lesser", .cell)]) (by decide +kernel)) (fun _ _ _ _ _ => pg_name (i := 7) nd rfl (Or.inl rfl)) (fun _ _ _ _ _ => pts_nil)
            (fun _ _ _ _ _ => pe_ifExp (pt_cmpR op_eq (pv 7) (pv 1) (nomark _)) (pv 2) (pv 7))) pa_nil)))
        (pss_one (ps_expr (pe_bm PySem.F.plainAttrs_list PySem.F.slot_list_append PySem.F.type_list_append mt_append (pv 3) (pa_cons (pe_dcs (own := [("row", 6)]) (vs := [6]) (g := gName 6) (tt := tYes) (tb := tNKey P w (tVar 6) (tC (.bl true))) (fun D => rawD D #[] 0) rfl nd (fun H h hb => ho_N hb) (by intro g hg; simp at hg; rw [hg]) (pi_list (pv 5)) (blkOk_by (N := nReplace) (sc := defScope sReplace) (by decide +kernel)) (fun _ _ _ _ _ => pg_name (i := 6) nd rfl (Or.inl rfl)) (fun _ _ _ _ _ => pts_nil)
          (fun _ _ _ _ _ => em_nkey rfl hu0 rfl (pv 6) pe_bl)) pa_nil))))))
      (pss_one (ps_fld (pv 0) (pv 3) rfl)))), ?_⟩
    have hne := X.ne1
    -- self.became[lesser] = greater
    refine ⟨_, rfl, _, rfl, p, C, dx, _, _, rfl, X.ob, T.cl, T.nBc, lkBc, _, rfl, s.bd, _, rfl, DPut.k (k := Sum.inl a) X.bc (by rw [sizeLine_eq]; omega), ?_⟩
    have g1 : Fm (fun x => x = s.bd) H (upd H s.bd (.dK (putK s.bec (Sum.inl a) (.int b)))) := .mut X.bc (fun _ z => nomatch z) rfl
    generalize hH1 : upd H s.bd (.dK (putK s.bec (Sum.inl a) (.int b))) = H1 at g1 ⊢
    have bc1 : H1 s.bd = some (.dK (putK s.bec (Sum.inl a) (.int b))) := by rw [← hH1]; exact upd_same
    have rows1 : Paired (RowsD P w H1) s.ds s.Tb := rows_fm X.rows g1 fun d hd => (X.neD hd).2.2.2.1
    have ob1 := g1.ob _ _ X.ob fun z => hne.2.2.1 z.symm
    have tb1 := g1.ob _ _ X.tb fun z => hne.2.2.2.2.2.1 z
    -- tables = []
    refine ⟨Nat.zero_le _, fun tn htn => ?_⟩
    have htnH := g1.tr _ htn
    have g2 : Fm Non H1 (upd H1 tn (.lst [])) := .new htn
    have ntn : ∀ {x o}, H1 x = some o → x ≠ tn := fun e => ne_of_none e htn
    -- for rows in self.tables
    refine ⟨_, rfl, p, C, dx, _, _, rfl, g2.ob _ _ ob1 id, T.cl, T.nTb, lkTb, s.tl, rfl, ⟨_, .of (g2.ob _ _ tb1 id)⟩, for_list (K := K) (a := s.tl) (xs := s.ds.map V.ref) (fun i σ Hc => ∃ (es : List Addr) (Tn : List (List Row)) (x4 x5 : Option V),
      σ = [some (.ref p), some (.int a), some (.int b), some (.ref tn), x4, x5, none, none] ∧ Fm (fun x => x = tn) H1 Hc ∧ Hc tn = some (.lst (es.map V.ref)) ∧ es.length = i ∧ es.Nodup ∧ (∀ e ∈ es, H e = none) ∧ Paired (RowsD P w Hc) es Tn ∧
      Paired (fun rs rs' : List Row => ∀ r, r ∈ rs' ↔ ∃ r0 ∈ rs, r = subRow a b r0) (s.Tb.take i) Tn) ?_ ?_ ?_ ?_⟩
    · exact ⟨[], [], _, _, rfl, g2.weak fun _ z => z.elim, upd_same, rfl, List.nodup_nil, fun e he => by simp at he, .nil, by rw [List.take_zero]; exact .nil⟩
    · rintro i σ Hc _ ⟨_, _, _, _, _, f, _⟩
      exact .of (f.ob _ _ tb1 (ntn tb1))
    · rintro i x σ Hc hx ⟨es, Tn, x4, x5, rfl, f, htl, hel, hend, hfr, hpr, hps⟩
      obtain ⟨d, hd, rfl⟩ := map_at hx
      obtain ⟨rs, hrs, hrd⟩ := paired_at rows1 hd
      obtain ⟨kvs, hnd, hke⟩ := hrd.fm f (by obtain ⟨_, _, z⟩ := hrd.ob; exact ntn z)
      obtain ⟨es0, ep0, na⟩ := id hnd
      have hlr := h64 rs (List.mem_of_getElem? hrs)
      have hin : i < s.ds.length := (List.getElem?_eq_some_iff.mp hd).1
      have hTl : s.Tb.length = A.n := X.tlen
      have hii : i < s.Tb.length := (List.getElem?_eq_some_iff.mp hrs).1
      have hwr : ∀ r ∈ rs, r.length ≤ 4 := fun r hr => by
        have := (X.wid i r ⟨rs, hrs, hr⟩).2
        have := hw4 i (by omega)
        omega
      have hlk : kvs.length = rs.length := by have := congrArg List.length hke; simpa using this
      -- changed = [..]
      refine ⟨_, rfl, d, es0, ep0, rfl, na.sys, na.ob, fun D hD => ?_⟩
      refine lc_acc (walk_nk na) (S := Non) (fun j acc H' => ∃ qs : List (Addr × Row), acc = qs.map (fun z => V.ref z.1) ∧ (∀ z ∈ qs, RowT H' z.1 z.2) ∧ qs.map (·.2) = (rs.take j).map (subRow a b)) (by omega) hD id (fun x => by rfl) (fun H' f' => f'.ob _ _ na.ob id)
        (fun j acc H1 H2 ⟨qs, h1, h2, h3⟩ f' => ⟨qs, h1, fun z hz => f'.tk _ _ (h2 z hz), h3⟩) ⟨[], rfl, fun z hz => by simp at hz, rfl⟩ ?_ ?_
      · rintro j y acc H2 H3 hj f2 ⟨qs, rfl, hq, hqs⟩ ⟨rfl, kk, v, av, hkv, rfl, hav⟩
        refine ⟨.refl, fun f3 _ Qt Qf kt kf => ?_⟩
        have e1 : (kvs.map (·.1))[j]? = some kk := by rw [List.getElem?_map, hkv]; rfl
        rw [hke, List.getElem?_map] at e1
        cases hr : rs[j]? with
        | none => rw [hr] at e1; cases e1
        | some r =>
          rw [hr] at e1
          have e2 : rowK r = kk := by simpa using e1
          subst e2
          rw [rowK_V] at hav
          have hrm := List.mem_of_getElem? hr
          refine sub_read (r := r) (a := a) (b := b) (sr := av) rfl rfl rfl (by show 7 < 8; decide) (f3.ob _ _ hav id) (by have := hwr r hrm; omega) fun q H4 hq4 f4 r4 => ?_
          refine kt _ _ f4 ⟨qs ++ [(q, subRow a b r)], by simp, fun z hz => ?_, ?_⟩
          · rcases List.mem_append.mp hz with hz | hz
            · exact f4.tk _ _ (hq z hz)
            · rw [List.mem_singleton.mp hz]; exact r4
          · rw [List.map_append, hqs, List.take_add_one, hr]; simp
      · rintro acc H2 f2 hl2 hd2 ⟨qs, rfl, hq, hqs⟩
        rw [hlk, List.take_length] at hqs
        have hqsl : qs.length = rs.length := by have := congrArg List.length hqs; simpa using this
        have htl2 := f2.ob _ _ htl id
        -- tables.append({row: True for row in changed})
        refine ⟨_, rfl, .inl ⟨rfl, _, SqL.of htl2⟩, ?_⟩
        refine ⟨_, rfl, D, rfl, ⟨_, .of hd2⟩, fun nd0 hnd0 hsys => ?_⟩
        refine rowdict (walk_listR (K := K) (b := D) (qs := qs)) (fun H' f' => .of (f'.ob _ _ hd2 id)) hq ?_ ?_ hnd0 hsys (by omega) fun H3 rn f3 dn mn ln => ?_
        · rfl
        · show 6 < 8; decide
        have htl3 := f3.ob _ _ htl2 id
        refine ⟨tn, _, _, rfl, rfl, htl3, by rw [List.length_map, sizeLine_eq]; omega, ?_⟩
        have f23 := f2.trans f3
        have hndH : H nd0 = none := htnH.symm ▸ g1.tr _ (f.tr _ (f2.tr _ hnd0))
        have f4 : Fm (fun x => x = tn) H3 (upd H3 tn (.lst (es.map V.ref ++ [.ref nd0]))) := .mut htl3 (fun _ => lst_ne) rfl
        have nes : ∀ e ∈ es, e ≠ tn := fun e he => by
          obtain ⟨i', hi'⟩ := List.getElem?_of_mem he
          obtain ⟨_, _, z⟩ := paired_at hpr hi'
          obtain ⟨_, _, z⟩ := z.ob
          exact ne_of z htl (rawD_nl.1 _)
        refine ⟨es ++ [nd0], Tn ++ [rn], _, _, rfl, (f.trans (f23.weak fun _ z => z.elim)).trans f4, by rw [upd_same, List.map_append]; rfl, by simp [hel], ?_, fun e he => ?_, ?_, ?_⟩
        · rw [List.nodup_append]
          refine ⟨hend, by simp, fun x hx y hy e => ?_⟩
          rw [List.mem_singleton.mp hy] at e
          subst e
          obtain ⟨i', hi'⟩ := List.getElem?_of_mem hx
          obtain ⟨_, _, z⟩ := paired_at hpr hi'
          obtain ⟨_, _, z⟩ := z.ob
          exact ne_of_none (f2.ob _ _ z id) hnd0 rfl
        · rcases List.mem_append.mp he with he | he
          · exact hfr e he
          · rw [List.mem_singleton.mp he]; exact hndH
        · refine Paired.snoc (rows_fm (rows_fm hpr f23 fun _ _ => id) f4 fun e he => nes e he) (dn.fm f4 ?_)
          obtain ⟨_, _, z⟩ := dn.ob
          exact ne_of z htl3 (rawD_nl.1 _)
        · rw [List.take_add_one, hrs]
          refine Paired.snoc hps fun r => ?_
          rw [mn r, hqs]
          simp [eq_comm]
    · rintro σ Hc ⟨es, Tn, x4, x5, rfl, f, htl, hel, hend, hfr, hpr, hps⟩
      rw [List.length_map] at hel hps
      have hpl := Paired.length X.rows
      rw [hpl, List.take_length] at hps
      have obc := f.ob _ _ ob1 (ntn ob1)
      -- self.tables = tables
      refine ⟨_, rfl, _, rfl, p, C, dx, _, rfl, obc, T.cl, T.nTb, flds_len, ?_⟩
      rw [putTb]
      have f5 : Fm (fun x => x = p) Hc (upd Hc p (.ins C dx (flds sc bk tn s.sd s.bd s.sl s.cl))) := .mut obc (fun _ z => nomatch z) rfl
      have fall : Fm (fp p s) H (upd Hc p (.ins C dx (flds sc bk tn s.sd s.bd s.sl s.cl))) := by
        refine ((g1.weak fun x z => .inr (.inr (.inr (.inl z)))).step f fun x z => .inr ?_).trans (f5.weak fun x z => .inl z)
        rw [z]; exact htnH
      have st1 := g1.ob _ _ X.st fun z => hne.2.2.2.2.2.2.2 z
      have sn1 := g1.ob _ _ X.sn X.dif
      have nes : ∀ e ∈ es, e ≠ p := fun e he => by
        obtain ⟨i', hi'⟩ := List.getElem?_of_mem he
        obtain ⟨_, _, z⟩ := paired_at hpr hi'
        obtain ⟨_, _, z⟩ := z.ob
        exact ne_of z obc (rawD_nl.2.2 _ _ _)
      have est : stOf Tn = subStore a b (stOf s.Tb) := by
        funext t r
        apply propext
        constructor
        · rintro ⟨rs', h1, h2⟩
          obtain ⟨rs, h3, h4⟩ := paired_at2 hps h1
          obtain ⟨r0, h5, h6⟩ := (h4 r).mp h2
          exact ⟨r0, ⟨rs, h3, h5⟩, h6⟩
        · rintro ⟨r0, ⟨rs, h3, h5⟩, h6⟩
          obtain ⟨rs', h1, h4⟩ := paired_at hps h3
          exact ⟨rs', h1, (h4 r).mpr ⟨r0, h5, h6⟩⟩
      have npt : p ≠ tn := ntn ob1
      refine k _ { s with tl := tn, ds := es, Tb := Tn, bec := putK s.bec (Sum.inl a) (.int b) } fall ?_ (fun x hx => ?_) est rfl (length_putK _ _ _) rfl rfl
      · exact {
          ob := upd_same
          tb := by show upd Hc p _ tn = _; rw [upd_ne npt.symm]; exact htl
          rows := rows_fm hpr f5 nes
          sn := f5.ob _ _ (f.ob _ _ sn1 (ntn sn1)) hne.2.1
          bc := f5.ob _ _ (f.ob _ _ bc1 (ntn bc1)) hne.2.2.1
          st := f5.ob _ _ (f.ob _ _ st1 (ntn st1)) hne.2.2.2.1
          sta := X.sta.tk fall.tk
          tlen := by show Tn.length = _; rw [← Paired.length hps]; exact X.tlen
          nd := hend
          dif := X.dif
          dif2 := (ntn st1).symm
          inseen := fun t r v h hv => by
            rw [show stOf Tn = _ from est] at h
            obtain ⟨r0, h0, rfl⟩ := h
            obtain ⟨u, hu, rfl⟩ := List.mem_map.mp hv
            unfold sub
            split
            · exact hsn
            · exact X.inseen t r0 u h0 hu
          wid := fun t r h => by
            rw [show stOf Tn = _ from est] at h
            obtain ⟨r0, h0, rfl⟩ := h
            rw [length_subRow]
            exact X.wid t r0 h0 }
      · rcases hx with hx | hx | hx | hx | hx | hx
        · exact .inl (.inl hx)
        · right
          rw [show x = tn from hx]; exact htnH
        · exact .inl (.inr (.inr (.inl hx)))
        · exact .inl (.inr (.inr (.inr (.inl hx))))
        · exact .inl (.inr (.inr (.inr (.inr (.inl hx)))))
        · exact .inr (hfr x hx)
end
end Nor
end
section
/-! new_value, make_equal, put_in, put_below. -/
namespace Nor
open PySem L2 L2.NW
section
variable {P : Program} {w : World} {K : PySem.W.Frag} {mg : Str → Option Value} {base : Heap} {C : Addr} {A : PB} {sc bk p dx : Addr} {H H' : Hp} {s s' : CS} {k : Nat}
theorem ChAt.putSn (x : ChAt P w C A sc bk p dx H s) {kv : List (Key × V)} (hk : ∀ y, y ∈ s.seen.map (·.1) → y ∈ kv.map (·.1)) : ChAt P w C A sc bk p dx (upd H s.sd (.dK kv)) { s with seen := kv } := by
  have n := x.ne1
  have f : Fm (fun a => a = s.sd) H (upd H s.sd (.dK kv)) := .mut x.sn (fun _ z => nomatch z) rfl
  exact ⟨f.ob _ _ x.ob fun z => n.2.1 z.symm, f.ob _ _ x.tb n.2.2.2.2.1, rows_fm x.rows f fun d hd => (x.neD hd).2.2.1, upd_same, f.ob _ _ x.bc fun z => x.dif z.symm, f.ob _ _ x.st n.2.2.2.2.2.2.1, x.sta.tk f.tk, x.tlen, x.nd, x.dif, x.dif2, fun t r v h hv => hk _ (x.inseen t r v h hv), x.wid⟩
theorem ChAt.putSt (x : ChAt P w C A sc bk p dx H s) {xs : List V} : ChAt P w C A sc bk p dx (upd H s.sl (.lst xs)) { s with stp := xs } := by
  have n := x.ne1
  have f : Fm (fun a => a = s.sl) H (upd H s.sl (.lst xs)) := .mut x.st (fun _ => lst_ne) rfl
  exact ⟨f.ob _ _ x.ob fun z => n.2.2.2.1 z.symm, f.ob _ _ x.tb x.dif2, rows_fm x.rows f fun d hd => (x.neD hd).2.2.2.2, f.ob _ _ x.sn fun z => n.2.2.2.2.2.2.1 z.symm, f.ob _ _ x.bc fun z => n.2.2.2.2.2.2.2 z.symm, upd_same, x.sta.tk f.tk, x.tlen, x.nd, x.dif, x.dif2, x.inseen, x.wid⟩
theorem ChAt.setCl (x : ChAt P w C A sc bk p dx H s) {c : Bool} : ChAt P w C A sc bk p dx (upd H p (.ins C dx (flds sc bk s.tl s.sd s.bd s.sl c))) { s with cl := c } := by
  have n := x.ne1
  have f : Fm (fun a => a = p) H (upd H p (.ins C dx (flds sc bk s.tl s.sd s.bd s.sl c))) := .mut x.ob (fun _ z => nomatch z) rfl
  exact ⟨upd_same, f.ob _ _ x.tb n.1, rows_fm x.rows f fun d hd => (x.neD hd).1, f.ob _ _ x.sn n.2.1, f.ob _ _ x.bc n.2.2.1, f.ob _ _ x.st n.2.2.2.1, x.sta.tk f.tk, x.tlen, x.nd, x.dif, x.dif2, x.inseen, x.wid⟩
/-! ### new_value -/
abbrev nNewV : List Str := ["self", "value"]
theorem scNewV : FnScope nNewV ["self"] (defScope sNewValue) := ⟨rfl, rfl, rfl, by decide +kernel, rfl, by decide +kernel, by decide +kernel⟩
def spNewV (P : Program) (w : World) (C : Addr) (A : PB) : Sp := fun vs H Q _ => ∃ (sc bk p dx : Addr) (s : CS), vs = [.ref p] ∧ ChAt P w C A sc bk p dx H s ∧ s.seen.length < 1000000 ∧
  ∀ (v : Int), v < 0 → (Sum.inl v : Key) ∉ s.seen.map (·.1) → Q (.int v) (upd H s.sd (.dK (putK s.seen (Sum.inl v) (.bl true))))
theorem ok_newV {f : Addr} {fd : FuncData} (T : Txt K mg C) (F : Fun K "new_value" "Chase.new_value" sNewValue f fd) : FnOk P w K mg base CX0 1 f fd ["self"] (spNewV P w C A) := by
  refine F.ok scNewV (fun vs H Q E h => ?_) (fun cdv Ar outer sh H vs Q E hr h => ?_)
  · obtain ⟨sc, bk, p, dx, s, rfl, _⟩ := h
    rfl
  · obtain ⟨sc, bk, p, dx, s, rfl, X, hs, k⟩ := h
    have nd := scNewV.nd
    have hu := hu_of hr
    refine ⟨_, pss_cons (ps_set (i := 1) nd rfl (Or.inl rfl) (pe_un un_neg pe_int))
      (pss_cons (ps_while PassesOwn.never (pt_cmp (pc_din hu (pv 1) (pe_fld (pv 0) rfl))) (pss_one (ps_aug (i := 1) nd rfl (.inl rfl) pe_int ip_sub)))
      (pss_cons (ps_dput hu (pe_fld (pv 0) rfl) (pv 1) pe_bl rfl) (pss_one (ps_ret (pv 1))))), ?_⟩
    refine ⟨_, rfl, fun m σ H' => ∃ i : Nat, σ = [some (.ref p), some (.int (-1 - (i : Int)))] ∧ H' = H ∧ (∀ j, j < i → (Sum.inl (-1 - (j : Int)) : Key) ∈ s.seen.map (·.1)) ∧ m + i = s.seen.length, ⟨s.seen.length, 0, rfl, rfl, fun j hj => by omega, rfl⟩, ?_⟩
    rintro m σ H' ⟨i, rfl, rfl, hj, hm⟩
    refine ⟨_, rfl, _, rfl, p, C, dx, _, _, rfl, X.ob, T.cl, T.nSn, lkSn, s.sd, _, rfl, DGet.k (k := Sum.inl (-1 - (i : Int))) X.sn, _, rfl, ?_⟩
    cases e : valV s.seen (Sum.inl (-1 - (i : Int)) : Key) with
    | some v =>
      have hin := valV_in e
      have hall : ∀ j, j < i + 1 → (Sum.inl (-1 - (j : Int)) : Key) ∈ s.seen.map (·.1) := fun j hj' => by
        rcases Nat.lt_succ_iff_lt_or_eq.mp hj' with h | h
        · exact hj j h
        · rw [h]; exact hin
      have hle : i + 1 ≤ s.seen.length := by
        have := nodup_le (l := (List.range (i + 1)).map fun j : Nat => (Sum.inl (-1 - (j : Int)) : Key)) (m := s.seen.map (·.1)) (List.Pairwise.map _ (fun a b h e => h (by injection e with e; omega)) List.nodup_range) (fun x hx => by
          obtain ⟨j, h1, rfl⟩ := List.mem_map.mp hx
          exact hall j (List.mem_range.mp h1))
        simpa using this
      refine iteT ⟨fun σ' H' => ∃ m', m' < m ∧ ∃ i : Nat, σ' = [some (.ref p), some (.int (-1 - (i : Int)))] ∧ H' = _ ∧ (∀ j, j < i → (Sum.inl (-1 - (j : Int)) : Key) ∈ s.seen.map (·.1)) ∧ m' + i = s.seen.length, fun σ' H' h => h, ?_⟩
      refine ⟨_, rfl, _, _, rfl, rfl, m - 1, by omega, i + 1, ?_, rfl, hall, by omega⟩
      have : (-1 - (i : Int)) - 1 = -1 - ((i + 1 : Nat) : Int) := by omega
      show [some (V.ref p), some (V.int ((-1 - (i : Int)) - 1))] = _
      rw [this]
    | none =>
      refine iteF ?_
      refine ⟨_, rfl, p, C, dx, _, _, rfl, X.ob, T.cl, T.nSn, lkSn, _, rfl, s.sd, _, rfl, DPut.k (k := Sum.inl (-1 - (i : Int))) X.sn (by rw [sizeLine_eq]; omega), _, rfl, ?_⟩
      exact k _ (by omega) (valV_not e)
end
end Nor
end
section
/-! make_equal. -/
namespace Nor
open PySem L2 L2.NW
section
variable {P : Program} {w : World} {K : PySem.W.Frag} {mg : Str → Option Value} {base : Heap} {C : Addr} {A : PB} {sc bk p dx : Addr} {H H' : Hp} {s s' : CS} {k : Nat}
abbrev nMakeEq : List Str := ["self", "index", "one", "other", "unlike", "values", "column"]
theorem scMakeEq : FnScope nMakeEq ["self", "index", "one", "other"] (defScope sMakeEqual) := ⟨rfl, rfl, rfl, by decide +kernel, rfl, by decide +kernel, by decide +kernel⟩
/-- behind a step -/
def After (P : Program) (w : World) (C : Addr) (A : PB) (sc bk p dx : Addr) (H : Hp) (s : CS) (k : Nat) (R : Hp → CS → Nat → Prop) : Prop :=
  ∀ (H' : Hp) (s' : CS) (k' : Nat), Fm (fp p s) H H' → ChAt P w C A sc bk p dx H' s' → (∀ x, fp p s' x → fp p s x ∨ H x = none) → Run A k' s' → R H' s' k'
def spMakeEq (P : Program) (w : World) (C : Addr) (A : PB) : Sp := fun vs H Q _ => ∃ (sc bk p dx : Addr) (s : CS) (k i t : Nat) (a b : Addr) (l r : List Nat) (x y : Row), vs = [.ref p, .int (i : Int), .ref a, .ref b] ∧ ChAt P w C A sc bk p dx H s ∧ Run A k s ∧ s.cl = false ∧
  A.dl[i]? = some (.settles t l r) ∧ stOf s.Tb t x ∧ stOf s.Tb t y ∧ RowT H a x ∧ RowT H b y ∧ picks x l = picks y l ∧ picks x r ≠ picks y r ∧
  After P w C A sc bk p dx H s k fun H' s' k' => (k < k' ∨ s'.cl = true) → k ≤ k' → Q .non H'
theorem perm_pair {u v : Int} {ns : List Int} (h : ns.Perm [u, v]) : ns = [u, v] ∨ ns = [v, u] := by
  have hl := h.length_eq
  match ns, hl with
  | [m, M], _ =>
    have hm : m ∈ [u, v] := h.mem_iff.mp (by simp)
    rcases List.mem_cons.mp hm with rfl | hm
    · have := h.cons_inv
      have := this.length_eq
      have h2 : [M].Perm [v] := h.cons_inv
      have : M ∈ [v] := h2.mem_iff.mp (by simp)
      rw [List.mem_singleton.mp this]; exact .inl rfl
    · have e := List.mem_singleton.mp hm
      subst e
      have h2 : [M].Perm [u] := (h.trans (List.Perm.swap m u [])).cons_inv
      have : M ∈ [u] := h2.mem_iff.mp (by simp)
      rw [List.mem_singleton.mp this]; exact .inr rfl
theorem tables_small (ok : A.Ok) (X : ChAt P w C A sc bk p dx H s) (R : Run A k s) : ∀ rs ∈ s.Tb, rs.length ≤ 64 := by
  intro rs hrs
  obtain ⟨t, ht⟩ := List.getElem?_of_mem hrs
  obtain ⟨d, _, h⟩ := paired_at2 X.rows ht
  exact (X.rowsLen ok R ht h.nodup).1
theorem ok_makeEq {f fR : Addr} {fd fdR : FuncData} (ok : A.Ok) (T : Txt K mg C) (F : Fun K "make_equal" "Chase.make_equal" sMakeEqual f fd) (oR : OwnM K C "replace" fR fdR ["self", "lesser", "greater"]) (GR : FnOk P w K mg base CX0 1 fR fdR ["self", "lesser", "greater"] (spReplace P w C A)) (ms : mg "sorted" = none) :
    FnOk P w K mg base CX0 2 f fd ["self", "index", "one", "other"] (spMakeEq P w C A) := by
  refine F.ok scMakeEq (fun vs H Q E h => ?_) (fun cdv Ar outer sh H vs Q E hr h => ?_)
  · obtain ⟨sc, bk, p, dx, s, k, i, t, a, b, l, r, x, y, rfl, _⟩ := h
    rfl
  · obtain ⟨sc, bk, p, dx, s, k, i, t, a, b, l, r, x, y, rfl, X, R, hcl, hd, hx, hy, ra, rb, hl, hne, q⟩ := h
    have nd := scMakeEq.nd
    have hu := hu_of hr
    refine ⟨_, pss_cons (ps_expr (pe_bm PySem.F.plainAttrs_list PySem.F.slot_list_append PySem.F.type_list_append mt_append (pe_fld (pv 0) rfl) (pa_cons (pe_tup (pa_cons pe_str (pa_cons (pv 1) (pa_cons (pv 2) (pa_cons (pv 3) pa_nil))))) pa_nil)))
      (pss_cons (ps_setLc (i := 4) (own := [("column", 6)]) (g := gName 6) rfl nd rfl rfl (sw_true rfl rfl rfl (by decide +kernel)) (pi_tup (pe_ix ix_tup (pe_ix ix_tup (pe_fld (pv 0) rfl) (pv 1) (fun _ _ => rfl)) pe_int (fun _ _ => rfl))) (blkOk_by (N := nMakeEq) (sc := defScope sMakeEqual) (by decide +kernel)) (fun _ _ _ _ _ => pg_name (i := 6) nd rfl (Or.inl rfl))
        (fun _ _ _ _ _ => pts_one (pt_cmpR (r := rNe) op_ne (pe_ix (r := rIxT K) ix_tup (pv 2) (pv 6) (fun _ _ => rfl)) (pe_ix (r := rIxT K) ix_tup (pv 3) (pv 6) (fun _ _ => rfl)) (nomark _))) (fun _ _ _ _ _ => pv 6))
      (pss_cons (ps_set (i := 5) nd rfl (Or.inl rfl) (pe_callB cr_sorted rfl ms PyProof.Rows.boot_sorted (pa_cons (pe_lst (pa_cons (pe_ix ix_tup (pv 2) (pe_ix ix_list (pv 4) pe_int (fun _ _ => rfl)) (fun _ _ => rfl)) (pa_cons (pe_ix ix_tup (pv 3) (pe_ix ix_list (pv 4) pe_int (fun _ _ => rfl)) (fun _ _ => rfl)) pa_nil))) pa_nil)))
      (pss_one (ps_if (pt_cmpR op_ge (pe_ix ix_list (pv 5) pe_int (fun _ _ => rfl)) pe_int (nomark _)) (pss_one (ps_fld (pv 0) pe_bl rfl))
        (pss_one (ps_expr (pe_meth (pv 0) T.cl oR.mt GR hr oR.bd .nil pass0 (pa_cons (pe_ix ix_list (pv 5) pe_int (fun _ _ => rfl)) (pa_cons (pe_ix ix_list (pv 5) pe_int (fun _ _ => rfl)) pa_nil))))))))), ?_⟩
    obtain ⟨hk, _⟩ := ok.bd k _ R.steps
    have hdm := List.mem_of_getElem? hd
    have dok : DepOk A.n A.wf (.settles t l r) := ok.dep _ hdm
    have dsm : DepSm (.settles t l r) := ok.small _ hdm
    have wx := (X.wid _ _ hx).2
    have wy := (X.wid _ _ hy).2
    have hstl := R.open' hcl
    -- self.steps.append(..)
    refine ⟨_, rfl, p, C, dx, _, _, rfl, X.ob, T.cl, T.nSt, lkSt, .inl ⟨rfl, _, SqL.of X.st⟩, ?_⟩
    refine ⟨_, rfl, _, rfl, _, rfl, by show 4 ≤ sizeLine; decide, fun q1 hq1 => ?_⟩
    have f1 : Fm Non H (upd H q1 (.tup [.str "equal", .int (i : Int), .ref a, .ref b])) := .new hq1
    have X1 := X.fm f1
    refine ⟨s.sl, _, _, rfl, rfl, X1.st, by rw [sizeLine_eq]; omega, ?_⟩
    have X2 := X1.putSt (xs := s.stp ++ [.ref q1])
    have f2 : Fm (fun z => z = s.sl) H _ := (f1.weak fun _ z => z.elim).trans (.mut (o := .lst (s.stp ++ [.ref q1])) X1.st (fun _ => lst_ne) rfl)
    generalize hH2 : upd (upd H q1 (.tup [.str "equal", .int (i : Int), .ref a, .ref b])) s.sl (.lst (s.stp ++ [.ref q1])) = H2 at X2 f2 ⊢
    -- unlike
    obtain ⟨es, e, h1, h2, b1, b2, h3, h4, h5⟩ := X2.sta.dep hd
    refine ⟨_, rfl, p, C, dx, _, _, rfl, X2.ob, T.cl, T.nBk, lkBk, _, rfl, bk, _, _, _, rfl, rfl, .of h1, atI_nat h2, e, _, _, _, rfl, rfl, .of h3, atI_nat (j := 3) rfl, b2, rfl, ⟨_, .of h5⟩, fun D hD => ?_⟩
    refine lc_acc (walk_tup (K := K) (xs := nV r)) (S := Non) (fun i acc H' => acc = nV ((r.take i).filter fun c => !decide (at' x c = at' y c))) (by rw [nV_len]; have := dsm.2; omega) hD id (fun x => by rfl) (fun H' f => .of (f.ob _ _ h5 id)) (fun i acc H1 H2 e _ => e) rfl ?_ ?_
    · rintro j z acc H3 H4 hj f3 rfl ⟨rfl, hz⟩
      refine ⟨.refl, fun f4 _ Qt Qf kt kf => ?_⟩
      obtain ⟨c, hc, rfl⟩ := nV_get hz
      have hcw := dok.2.2 c (List.mem_of_getElem? hc)
      have f24 := f2.tk.trans f4.tk
      refine ⟨_, rfl, _, rfl, a, _, _, _, rfl, rfl, .of (f24 _ _ ra), atI_nat (row_at (by rw [wx]; exact hcw)), _, rfl, _, rfl, b, _, _, _, rfl, rfl, .of (f24 _ _ rb), atI_nat (row_at (by rw [wy]; exact hcw)), rfl, _, rfl, ?_⟩
      rw [List.take_add_one, hc] at kt kf
      refine ite2 (fun h => ?_) (fun h => ?_)
      · have h' : ¬ at' x c = at' y c := by simpa using h
        exact ⟨_, rfl, kt _ _ .refl (by simp [nV, h'])⟩
      · have h' : at' x c = at' y c := by simpa using h
        exact kf _ .refl (by simp [nV, h'])
    · rintro acc H3 f3 hl3 hd3 rfl
      rw [nV_len, List.take_length] at *
      have X3 := X2.fm f3
      have f23 := f2.trans (f3.weak fun _ z => z.elim)
      cases hu2 : r.filter fun c => !decide (at' x c = at' y c) with
      | nil =>
        refine absurd (List.map_congr_left fun c hc => ?_) hne
        by_cases hc2 : at' x c = at' y c
        · exact hc2
        · have : c ∈ r.filter fun c => !decide (at' x c = at' y c) := List.mem_filter.mpr ⟨hc, by simp [hc2]⟩
          rw [hu2] at this
          cases this
      | cons c cs =>
        rw [hu2] at hd3
        have hcm : c ∈ r.filter fun c => !decide (at' x c = at' y c) := by rw [hu2]; exact List.mem_cons_self
        obtain ⟨hcr, hcne⟩ := List.mem_filter.mp hcm
        have hcne : ¬ at' x c = at' y c := by simpa using hcne
        have hcw := dok.2.2 c hcr
        have ix0 : atI (nV (c :: cs)) 0 = some (.int (c : Int)) := atI_nat (j := 0) rfl
        -- values
        refine ⟨_, rfl, _, rfl, D, _, _, _, rfl, rfl, .of hd3, ix0, a, _, _, _, rfl, rfl, .of (f23.tk _ _ ra), atI_nat (row_at (by rw [wx]; exact hcw)), ?_⟩
        refine ⟨_, rfl, _, rfl, D, _, _, _, rfl, rfl, .of hd3, ix0, b, _, _, _, rfl, rfl, .of (f23.tk _ _ rb), atI_nat (row_at (by rw [wy]; exact hcw)), ?_⟩
        refine ⟨by show 2 ≤ sizeLine; decide, fun l1 hl1 => ⟨l1, [at' x c, at' y c], rfl, .of upd_same, by show 2 < 64; decide, fun ns l2 hp hs hl2 => ?_⟩⟩
        have f4 : Fm Non H3 (upd (upd H3 l1 (.lst [V.int (at' x c), V.int (at' y c)])) l2 (.lst (ns.map V.int))) := (Fm.new hl1).trans (.new hl2)
        have X4 := X3.fm f4
        have f24 := f23.trans (f4.weak fun _ z => z.elim)
        generalize hH4 : upd (upd H3 l1 (.lst [V.int (at' x c), V.int (at' y c)])) l2 (.lst (ns.map V.int)) = H4 at X4 f24 ⊢
        have dl2 : H4 l2 = some (.lst (ns.map V.int)) := by rw [← hH4]; exact upd_same
        -- the two
        obtain ⟨m, M, rfl, hmM, hor⟩ : ∃ m M, ns = [m, M] ∧ m < M ∧ ((at' x c = m ∧ at' y c = M) ∨ (at' x c = M ∧ at' y c = m)) := by
          rcases perm_pair hp with rfl | rfl
          · have := (List.pairwise_cons.mp hs).1 (at' y c) (by simp)
            exact ⟨_, _, rfl, by omega, .inl ⟨rfl, rfl⟩⟩
          · have := (List.pairwise_cons.mp hs).1 (at' x c) (by simp)
            exact ⟨_, _, rfl, by omega, .inr ⟨rfl, rfl⟩⟩
        have i0 : atI (([m, M] : List Int).map V.int) 0 = some (.int m) := atI_nat (j := 0) rfl
        have i1 : atI (([m, M] : List Int).map V.int) 1 = some (.int M) := atI_nat (j := 1) rfl
        have e5 : (s.stp ++ [V.ref q1]).length = s.stp.length + 1 := by simp
        refine ⟨_, rfl, l2, _, _, _, rfl, rfl, .of dl2, i0, _, _, rfl, rfl, _, rfl, ?_⟩
        refine ite2 (fun hge => ?_) (fun hge => ?_)
        · have hge : (0 : Int) ≤ m := by simpa using hge
          refine ⟨_, rfl, p, C, dx, _, rfl, X4.ob, T.cl, T.nCl, flds_len, ?_⟩
          rw [putCl]
          refine q _ _ k ((f24.weak fun z hz => .inr (.inr (.inr (.inr (.inl hz))))).trans ((Fm.mut (S := fp p s) X4.ob (fun _ z => nomatch z) (.inl rfl)))) (X4.setCl (c := true)) (fun z hz => .inl hz)
            ⟨R.steps, by show (s.stp ++ [V.ref q1]).length ≤ k + 1; omega, R.lsn, R.lbc, fun _ => ⟨t, l, r, x, y, c, hdm, hx, hy, hl, hcr, hcne, by omega, by omega⟩, fun z => by cases z⟩ (.inr rfl) (Nat.le_refl _)
        · have hge : m < 0 := by simpa using hge
          refine ⟨_, rfl, p, dx, _, rfl, X4.ob, lkNo (by decide +kernel), _, rfl, l2, _, _, _, rfl, rfl, .of dl2, i0, _, rfl, l2, _, _, _, rfl, rfl, .of dl2, i1, ?_⟩
          have R' : Run A k { s with stp := s.stp } := R
          have hMin : (Sum.inl M : Key) ∈ s.seen.map (·.1) := by
            have inr : ∀ {u : Row} {t'}, stOf s.Tb t' u → c < u.length → (Sum.inl (at' u c) : Key) ∈ s.seen.map (·.1) := fun {u t'} hu hcu => X.inseen t' u _ hu (by simp [at', hcu])
            rcases hor with ⟨_, e⟩ | ⟨e, _⟩
            · rw [← e]; exact inr hy (by rw [wy]; exact hcw)
            · rw [← e]; exact inr hx (by rw [wx]; exact hcw)
          refine ⟨sc, bk, p, dx, _, m, M, rfl, X4, (tables_small ok X R : ∀ rs ∈ s.Tb, rs.length ≤ 64), by have := R.lbc; show s.bec.length < 100000; omega, hMin, ok.n3, fun t ht => (ok.wid t ht).2, fun H5 s5 f5 X5 sub5 est esn ebc estp ecl => ?_⟩
          have est' : stOf s5.Tb = subStore m M (stOf s.Tb) := est
          have f25 : Fm (fp p s) H H5 := (f24.weak fun z hz => .inr (.inr (.inr (.inr (.inl hz))))).step f5 fun z hz => .inl hz
          refine q H5 s5 (k + 1) f25 X5 (fun z hz => ?_) ⟨?_, ?_, ?_, ?_, fun z => ?_, fun _ => ?_⟩ (.inl (Nat.lt_succ_self _)) (Nat.le_succ _)
          · rcases sub5 z hz with h | h
            · exact .inl h
            · exact .inr (f24.tr _ h)
          · rw [est']
            exact .succ R.steps (.eq hdm hx hy hl hcr hor hmM hge)
          · rw [estp]; show (s.stp ++ [V.ref q1]).length ≤ k + 1 + 1; omega
          · rw [esn]; have := R.lsn; show s.seen.length ≤ _; omega
          · have := R.lbc
            have : s5.bec.length ≤ s.bec.length + 1 := ebc
            omega
          · rw [ecl] at z
            rw [show s.cl = true from z] at hcl
            cases hcl
          · rw [estp]; show (s.stp ++ [V.ref q1]).length ≤ k + 1; omega
end
end Nor
end
section
/-! put_in. -/
namespace Nor
open PySem L2 L2.NW
def Dep.tab : Dep → Nat
  | .settles t _ _ => t
  | .deals t _ _ => t
  | .joins t _ => t
  | .within t _ _ _ => t
def Dep.kind : Dep → Str
  | .settles _ _ _ => "settles"
  | .deals _ _ _ => "deals"
  | .joins _ _ => "joins"
  | .within _ _ _ _ => "within"
theorem DepAt.head {H : Hp} {a : Addr} : ∀ {d : Dep}, DepAt H a d → ∃ xs, Tu H a xs ∧ xs[0]? = some (.str d.kind) ∧ xs[1]? = some (.int (d.tab : Int))
  | .settles _ _ _, ⟨_, _, h, _⟩ => ⟨_, h, rfl, rfl⟩
  | .deals _ _ _, ⟨_, _, h, _⟩ => ⟨_, h, rfl, rfl⟩
  | .joins _ _, ⟨_, h, _⟩ => ⟨_, h, rfl, rfl⟩
  | .within _ _ _ _, ⟨_, _, h, _⟩ => ⟨_, h, rfl, rfl⟩
theorem parts_tab {wf : Nat → Nat} {d : Dep} {t : Nat} {ps : List (List Nat)} (h : d.parts wf = some (t, ps)) : d.tab = t := by
  cases d with
  | settles => cases h
  | within => cases h
  | deals => cases h; rfl
  | joins => cases h; rfl
theorem paired_iff {α β : Type} {F : α → β → Prop} : ∀ {l : List α} {m : List β}, Paired F l m ↔ l.length = m.length ∧ ∀ (i : Nat) a b, l[i]? = some a → m[i]? = some b → F a b
  | [], [] => ⟨fun _ => ⟨rfl, fun i a b h => by simp at h⟩, fun _ => .nil⟩
  | [], _ :: _ => ⟨fun h => (by cases h), fun h => (by simp at h)⟩
  | _ :: _, [] => ⟨fun h => (by cases h), fun h => (by simp at h)⟩
  | x :: l, y :: m => by
    constructor
    · intro h
      cases h with
      | cons h t =>
        obtain ⟨h1, h2⟩ := paired_iff.mp t
        refine ⟨by simp [h1], fun i a b ha hb => ?_⟩
        cases i with
        | zero => simp at ha hb; subst ha; subst hb; exact h
        | succ i => simp at ha hb; exact h2 i a b ha hb
    · rintro ⟨h1, h2⟩
      refine .cons (h2 0 x y rfl rfl) (paired_iff.mpr ⟨by simpa using h1, fun i a b ha hb => h2 (i + 1) a b (by simpa using ha) (by simpa using hb)⟩)
theorem nodup_idx {α : Type} {l : List α} {x : α} {i j : Nat} (nd : l.Nodup) (h1 : l[i]? = some x) (h2 : l[j]? = some x) : i = j := by
  obtain ⟨a1, b1⟩ := List.getElem?_eq_some_iff.mp h1
  obtain ⟨a2, b2⟩ := List.getElem?_eq_some_iff.mp h2
  rcases Nat.lt_trichotomy i j with h | h | h
  · exact absurd (b1.trans b2.symm) (List.pairwise_iff_getElem.mp nd i j a1 a2 h)
  · exact h
  · exact absurd (b2.trans b1.symm) (List.pairwise_iff_getElem.mp nd j i a2 a1 h)
theorem st_set {Tb : List (List Row)} {t : Nat} {rs rs' : List Row} {r : Row} (h : Tb[t]? = some rs) (hm : ∀ x, x ∈ rs' ↔ x ∈ rs ∨ x = r) : stOf (Tb.set t rs') = addRow (stOf Tb) t r := by
  have ht : t < Tb.length := (List.getElem?_eq_some_iff.mp h).1
  funext u x
  apply propext
  unfold stOf addRow
  by_cases e : u = t
  · subst e
    rw [List.getElem?_set_self ht]
    constructor
    · rintro ⟨_, h1, h2⟩
      rw [← Option.some.inj h1, hm] at h2
      exact h2.elim (fun h2 => .inl ⟨rs, h, h2⟩) fun h2 => .inr ⟨rfl, h2⟩
    · rintro (⟨rs2, h1, h2⟩ | ⟨_, h2⟩)
      · rw [h] at h1
        rw [← Option.some.inj h1] at h2
        exact ⟨_, rfl, (hm x).mpr (.inl h2)⟩
      · exact ⟨_, rfl, (hm x).mpr (.inr h2)⟩
  · rw [List.getElem?_set_ne (Ne.symm e)]
    constructor
    · exact .inl
    · rintro (h | ⟨h, _⟩)
      · exact h
      · exact absurd h e
section
variable {P : Program} {w : World} {K : PySem.W.Frag} {mg : Str → Option Value} {base : Heap} {C : Addr} {A : PB} {sc bk p dx : Addr} {H H' : Hp} {s s' : CS} {k : Nat}
theorem ChAt.addRow (X : ChAt P w C A sc bk p dx H s) {t : Nat} {d : Addr} {rs rs' : List Row} {r : Row} {kvs : List (TKey × V)} (hd : s.ds[t]? = some d) (ht : s.Tb[t]? = some rs) (np : NPut P w H d kvs H') (hr : RowsD P w H' d rs') (hm : ∀ x, x ∈ rs' ↔ x ∈ rs ∨ x = r)
    (hs : ∀ v ∈ r, (Sum.inl v : Key) ∈ s.seen.map (·.1)) (hl : r.length = A.wf t) : ChAt P w C A sc bk p dx H' { s with Tb := s.Tb.set t rs' } ∧ Fm (fun x => x = d) H H' := by
  have hdm := List.mem_of_getElem? hd
  obtain ⟨rs0, hrs0, hD⟩ := paired_at X.rows hd
  obtain ⟨kv0, hN, _⟩ := hD
  have f : Fm (fun x => x = d) H H' := .put np hN rfl
  have ne := X.neD hdm
  have htl : t < A.n := by rw [← X.tlen]; exact (List.getElem?_eq_some_iff.mp ht).1
  refine ⟨?_, f⟩
  have est := st_set ht hm
  exact {
    ob := f.ob _ _ X.ob ne.1.symm
    tb := f.ob _ _ X.tb ne.2.1.symm
    rows := by
      obtain ⟨h1, h2⟩ := paired_iff.mp X.rows
      refine paired_iff.mpr ⟨by simp [h1], fun i a b ha hb => ?_⟩
      by_cases e : i = t
      · subst e
        rw [List.getElem?_set_self (by rw [← h1]; exact (List.getElem?_eq_some_iff.mp hd).1)] at hb
        rw [hd] at ha
        rw [← Option.some.inj ha, ← Option.some.inj hb]
        exact hr
      · rw [List.getElem?_set_ne (Ne.symm e)] at hb
        refine (h2 i a b ha hb).fm f fun z => e ?_
        rw [z] at ha
        exact nodup_idx X.nd ha hd
    sn := f.ob _ _ X.sn ne.2.2.1.symm
    bc := f.ob _ _ X.bc ne.2.2.2.1.symm
    st := f.ob _ _ X.st ne.2.2.2.2.symm
    sta := X.sta.tk f.tk
    tlen := by show (s.Tb.set t rs').length = _; rw [List.length_set]; exact X.tlen
    nd := X.nd
    dif := X.dif
    dif2 := X.dif2
    inseen := fun u x v h hv => by
      rw [show stOf (s.Tb.set t rs') = _ from est] at h
      rcases h with h | ⟨_, rfl⟩
      · exact X.inseen u x v h hv
      · exact hs v hv
    wid := fun u x h => by
      rw [show stOf (s.Tb.set t rs') = _ from est] at h
      rcases h with h | ⟨rfl, rfl⟩
      · exact X.wid u x h
      · exact ⟨htl, hl⟩ }
abbrev nPutIn : List Str := ["self", "index", "rows", "missing"]
theorem scPutIn : FnScope nPutIn ["self", "index", "rows", "missing"] (defScope sPutIn) := ⟨rfl, rfl, rfl, by decide +kernel, rfl, by decide +kernel, by decide +kernel⟩
def spPutIn (P : Program) (w : World) (C : Addr) (A : PB) : Sp := fun vs H Q _ => ∃ (sc bk p dx : Addr) (s : CS) (k i t : Nat) (z : V) (a : Addr) (d : Dep) (ps : List (List Nat)) (r : Row), vs = [.ref p, .int (i : Int), z, .ref a] ∧ ChAt P w C A sc bk p dx H s ∧ Run A k s ∧ s.cl = false ∧
  A.dl[i]? = some d ∧ d.parts A.wf = some (t, ps) ∧ RowT H a r ∧ r.length = A.wf t ∧ ¬ stOf s.Tb t r ∧ (∀ q ∈ ps, ∃ x, stOf s.Tb t x ∧ picks x q = picks r q) ∧
  After P w C A sc bk p dx H s k fun H' s' k' => k < k' → s'.cl = false → stOf s'.Tb = addRow (stOf s.Tb) t r → Q .non H'
theorem ok_putIn {f : Addr} {fd : FuncData} (ok : A.Ok) (T : Txt K mg C) (F : Fun K "put_in" "Chase.put_in" sPutIn f fd) : FnOk P w K mg base CX0 1 f fd ["self", "index", "rows", "missing"] (spPutIn P w C A) := by
  refine F.ok scPutIn (fun vs H Q E h => ?_) (fun cdv Ar outer sh H vs Q E hr h => ?_)
  · obtain ⟨sc, bk, p, dx, s, k, i, t, z, a, d, ps, r, rfl, _⟩ := h
    rfl
  · obtain ⟨sc, bk, p, dx, s, k, i, t, z, a, d, ps, r, rfl, X, R, hcl, hd, hp, ra, hrl, hn, hj, q⟩ := h
    have nd := scPutIn.nd
    have hu := hu_of hr
    refine ⟨_, pss_cons (ps_expr (pe_bm PySem.F.plainAttrs_list PySem.F.slot_list_append PySem.F.type_list_append mt_append (pe_fld (pv 0) rfl) (pa_cons (pe_tup (pa_cons pe_str (pa_cons (pv 1) (pa_cons (pv 2) pa_nil)))) pa_nil)))
      (pss_one (ps_asg pe_bl (pg_sub (pe_ix ix_list (pe_fld (pv 0) rfl) (pe_ix ix_tup (pe_ix ix_tup (pe_fld (pv 0) rfl) (pv 1) (fun _ _ => rfl)) pe_int (fun _ _ => rfl)) (fun _ _ => rfl)) (pv 3) (set_n hu)))), ?_⟩
    obtain ⟨hk, _⟩ := ok.bd k _ R.steps
    have hdm := List.mem_of_getElem? hd
    have pok := parts_ok (ok.dep _ hdm) hp
    have hstl := R.open' hcl
    refine ⟨_, rfl, p, C, dx, _, _, rfl, X.ob, T.cl, T.nSt, lkSt, .inl ⟨rfl, _, SqL.of X.st⟩, ?_⟩
    refine ⟨_, rfl, _, rfl, by show 3 ≤ sizeLine; decide, fun q1 hq1 => ?_⟩
    have f1 : Fm Non H (upd H q1 (.tup [.str "row", .int (i : Int), z])) := .new hq1
    have X1 := X.fm f1
    refine ⟨s.sl, _, _, rfl, rfl, X1.st, by rw [sizeLine_eq]; omega, ?_⟩
    have X2 := X1.putSt (xs := s.stp ++ [.ref q1])
    have f2 : Fm (fun z => z = s.sl) H _ := (f1.weak fun _ z => z.elim).trans (.mut (o := .lst (s.stp ++ [.ref q1])) X1.st (fun _ => lst_ne) rfl)
    generalize hH2 : upd (upd H q1 (.tup [.str "row", .int (i : Int), z])) s.sl (.lst (s.stp ++ [.ref q1])) = H2 at X2 f2 ⊢
    obtain ⟨es, e, h1, h2, h3⟩ := X2.sta.dep hd
    obtain ⟨xs, hx0, _, hx1⟩ := h3.head
    rw [parts_tab hp] at hx1
    obtain ⟨td, rs, ht1, ht2, ht3, ht4⟩ := X2.table pok.1
    refine ⟨_, rfl, p, C, dx, _, _, rfl, X2.ob, T.cl, T.nTb, lkTb, _, rfl, p, C, dx, _, _, rfl, X2.ob, T.cl, T.nBk, lkBk, _, rfl, bk, _, _, _, rfl, rfl, .of h1, atI_nat h2, e, _, _, _, rfl, rfl, .of hx0, atI_nat (j := 1) hx1, s.tl, _, _, _, rfl, rfl, .of X2.tb, atI_nat ht1, ?_⟩
    obtain ⟨kvs, hN, hK⟩ := id ht4
    have hlen : rs.length ≤ 64 := (X.rowsLen ok R ht3 ht4.nodup).1
    have hkl : kvs.length = rs.length := by have := congrArg List.length hK; simpa using this
    refine ⟨_, rfl, td, a, rowK r, kvs, rfl, rfl, (by rw [rowK_V]; exact f2.tk _ _ ra), hN, by rw [sizeLine_eq]; omega, fun H3 np => ?_⟩
    obtain ⟨rs', hr', hm', hl', _⟩ := RowsD.put hK np
    obtain ⟨X3, f3⟩ := X2.addRow (r := r) ht2 ht3 np hr' hm' (fun v hv => by
      obtain ⟨c, hc, rfl⟩ := List.getElem_of_mem hv
      obtain ⟨g, hg, hcg⟩ := pok.2.2.2 c (by rw [← hrl]; exact hc)
      obtain ⟨x, hx, hxe⟩ := hj g hg
      have hat := (List.map_inj_left.mp hxe) c hcg
      have hcx : c < x.length := by rw [(X.wid _ _ hx).2, ← hrl]; exact hc
      have : r[c] = at' x c := by rw [hat]; simp [at', hc]
      rw [this]
      exact X.inseen t x _ hx (by simp [at', hcx])) hrl
    have est := st_set ht3 hm'
    have f23 : Fm (fp p s) H H3 := (f2.weak fun z hz => .inr (.inr (.inr (.inr (.inl hz))))).trans (f3.weak fun z hz => .inr (.inr (.inr (.inr (.inr (by rw [hz]; exact List.mem_of_getElem? ht2))))))
    have e5 : (s.stp ++ [V.ref q1]).length = s.stp.length + 1 := by simp
    refine q H3 _ (k + 1) f23 X3 (fun z hz => .inl hz) ⟨?_, ?_, ?_, ?_, fun z => ?_, fun _ => ?_⟩ (Nat.lt_succ_self _) hcl est
    · rw [show stOf (s.Tb.set t rs') = _ from est]
      exact .succ R.steps (.row hdm hp hrl hn hj)
    · show (s.stp ++ [V.ref q1]).length ≤ k + 1 + 1; omega
    · have := R.lsn; show s.seen.length ≤ _; omega
    · have := R.lbc; show s.bec.length ≤ _; omega
    · rw [show s.cl = true from z] at hcl; cases hcl
    · show (s.stp ++ [V.ref q1]).length ≤ k + 1; omega
end
end Nor
end
section
/-! put_below. -/
namespace Nor
open PySem L2 L2.NW
theorem merge_out {k : Key} : ∀ (l acc : List (Key × V)), k ∉ l.map (·.1) → valV (mergeK acc l) k = valV acc k
  | [], acc, _ => rfl
  | q :: l, acc, h => by
    show valV (mergeK (putK acc q.1 q.2) l) k = _
    rw [merge_out l _ fun z => h (List.mem_cons_of_mem _ z), valV_put, if_neg fun e => h (by rw [e]; exact List.mem_cons_self)]
theorem merge_in {k : Key} {v : V} : ∀ (l acc : List (Key × V)), (l.map (·.1)).Nodup → (k, v) ∈ l → valV (mergeK acc l) k = some v
  | [], _, _, h => by cases h
  | q :: l, acc, nd, h => by
    show valV (mergeK (putK acc q.1 q.2) l) k = _
    have nd := List.nodup_cons.mp nd
    rcases List.mem_cons.mp h with e | h
    · subst e
      rw [merge_out l _ nd.1, valV_put, if_pos rfl]
    · exact merge_in l _ nd.2 h
abbrev iN (cs : List Nat) : List Int := cs.map fun c : Nat => (c : Int)
theorem zipK_keys {cs vs : List Int} (h : cs.length = vs.length) : (zipK cs vs).map (·.1) = cs.map fun c => (Sum.inl c : Key) := by
  unfold zipK
  rw [List.map_map]
  have : ((fun x : Key × V => x.1) ∘ fun z : Int × Int => ((Sum.inl z.1 : Key), V.int z.2)) = (fun c => (Sum.inl c : Key)) ∘ Prod.fst := rfl
  rw [this, ← List.map_map, List.map_fst_zip (by omega)]
theorem told_some {os : List Nat} {vs : List Int} (nd : os.Nodup) (hl : os.length = vs.length) {i c : Nat} {v : Int} (hc : os[i]? = some c) (hv : vs[i]? = some v) : valV (mergeK [] (zipK (iN os) vs)) (Sum.inl (c : Int) : Key) = some (.int v) := by
  refine merge_in _ _ ?_ ?_
  · rw [zipK_keys (by rw [List.length_map]; exact hl), List.map_map]
    refine List.Pairwise.map _ (fun a b h e => h ?_) nd
    have : (a : Int) = b := by simpa using e
    omega
  · unfold zipK
    refine List.mem_map.mpr ⟨((c : Int), v), ?_, rfl⟩
    refine List.mem_of_getElem? (i := i) ?_
    rw [List.getElem?_zip_eq_some]
    exact ⟨by rw [List.getElem?_map, hc]; rfl, hv⟩
theorem told_none {os : List Nat} {vs : List Int} (hl : os.length = vs.length) {c : Nat} (hc : c ∉ os) : valV (mergeK [] (zipK (iN os) vs)) (Sum.inl (c : Int) : Key) = none := by
  rw [merge_out]
  · rfl
  · rw [zipK_keys (by rw [List.length_map]; exact hl), List.map_map]
    intro h
    obtain ⟨d, hd, e⟩ := List.mem_map.mp h
    have : (d : Int) = c := by simpa using e
    have : d = c := by omega
    rw [this] at hd
    exact hc hd
section
variable {P : Program} {w : World} {K : PySem.W.Frag} {mg : Str → Option Value} {base : Heap} {C : Addr} {A : PB} {sc bk p dx : Addr} {H H' : Hp} {s s' : CS} {k : Nat}
theorem ChAt.fmS {S : Addr → Prop} (x : ChAt P w C A sc bk p dx H s) (f : Fm S H H') (h : ∀ a, fp p s a → ¬ S a) : ChAt P w C A sc bk p dx H' s :=
  ⟨f.ob _ _ x.ob (h _ (.inl rfl)), f.ob _ _ x.tb (h _ (.inr (.inl rfl))), rows_fm x.rows f fun d hd => h _ (.inr (.inr (.inr (.inr (.inr hd))))), f.ob _ _ x.sn (h _ (.inr (.inr (.inl rfl)))), f.ob _ _ x.bc (h _ (.inr (.inr (.inr (.inl rfl))))),
    f.ob _ _ x.st (h _ (.inr (.inr (.inr (.inr (.inl rfl)))))), x.sta.tk f.tk, x.tlen, x.nd, x.dif, x.dif2, x.inseen, x.wid⟩
theorem ChAt.there (x : ChAt P w C A sc bk p dx H s) {a : Addr} (h : fp p s a) : ∃ o, H a = some o := by
  rcases h with rfl | rfl | rfl | rfl | rfl | h
  · exact ⟨_, x.ob⟩
  · exact ⟨_, x.tb⟩
  · exact ⟨_, x.sn⟩
  · exact ⟨_, x.bc⟩
  · exact ⟨_, x.st⟩
  · obtain ⟨i, hi⟩ := List.getElem?_of_mem h
    obtain ⟨_, _, z⟩ := paired_at x.rows hi
    obtain ⟨_, _, z⟩ := z.ob
    exact ⟨_, z⟩
theorem ChAt.notIn (x : ChAt P w C A sc bk p dx H s) {a : Addr} (h : H a = none) : ¬ fp p s a := fun z => by obtain ⟨o, e⟩ := x.there z; rw [h] at e; cases e
abbrev nPutB : List Str := ["self", "index", "row", "columns", "other", "others", "told", "made", "column"]
theorem scPutB : FnScope nPutB ["self", "index", "row"] (defScope sPutBelow) := ⟨rfl, rfl, rfl, by decide +kernel, rfl, by decide +kernel, by decide +kernel⟩
def spPutB (P : Program) (w : World) (C : Addr) (A : PB) : Sp := fun vs H Q _ => ∃ (sc bk p dx : Addr) (s : CS) (k i t o : Nat) (a : Addr) (cs os : List Nat) (x : Row), vs = [.ref p, .int (i : Int), .ref a] ∧ ChAt P w C A sc bk p dx H s ∧ Run A k s ∧ s.cl = false ∧
  A.dl[i]? = some (.within t cs o os) ∧ RowT H a x ∧ stOf s.Tb t x ∧ (∀ y, stOf s.Tb o y → picks y os ≠ picks x cs) ∧
  After P w C A sc bk p dx H s k fun H' s' k' => k < k' → s'.cl = false → ∀ r, stOf s'.Tb = addRow (stOf s.Tb) o r → picks r os = picks x cs → r.length = A.wf o → Q .non H'
theorem ok_putB {f f1 fN : Addr} {fd fd1 fdN : FuncData} (ok : A.Ok) (T : Txt K mg C) (F : Fun K "put_below" "Chase.put_below" sPutBelow f fd) (o1 : Own K mg "picked" f1 fd1 ["row", "columns"]) (G1 : FnOk P w K mg base CX0 1 f1 fd1 ["row", "columns"] (spPicked K)) (oN : OwnM K C "new_value" fN fdN ["self"]) (GN : FnOk P w K mg base CX0 1 fN fdN ["self"] (spNewV P w C A))
    (mt : mg "tuple" = none) (mr : mg "range" = none) (md : mg "dict" = none) (mz : mg "zip" = none) : FnOk P w K mg base CX0 2 f fd ["self", "index", "row"] (spPutB P w C A) := by
  refine F.ok scPutB (fun vs H Q E h => ?_) (fun cdv Ar outer sh H vs Q E hr h => ?_)
  · obtain ⟨sc, bk, p, dx, s, k, i, t, o, a, cs, os, x, rfl, _⟩ := h
    rfl
  · obtain ⟨sc, bk, p, dx, s, k, i, t, o, a, cs, os, x, rfl, X, R, hcl, hd, ra, hx, hn, q⟩ := h
    have nd := scPutB.nd
    have hu := hu_of hr
    refine ⟨_, pss_cons (ps_expr (pe_bm PySem.F.plainAttrs_list PySem.F.slot_list_append PySem.F.type_list_append mt_append (pe_fld (pv 0) rfl) (pa_cons (pe_tup (pa_cons pe_str (pa_cons (pv 1) (pa_cons (pv 2) pa_nil)))) pa_nil)))
      (pss_cons (ps_asg (pe_slice sl_drop (pe_ix ix_tup (pe_fld (pv 0) rfl) (pv 1) (fun _ _ => rfl)) (po_some pe_int) po_none) (pg_tup rfl (pgs_cons (pg_name (i := 3) nd rfl (Or.inl rfl)) (pgs_cons (pg_name (i := 4) nd rfl (Or.inl rfl)) (pgs_cons (pg_name (i := 5) nd rfl (Or.inl rfl)) pgs_nil)))))
      (pss_cons (ps_set (i := 6) nd rfl (Or.inl rfl) (pe_dictzip rfl md rfl mz (pa_cons (pv 5) (pa_cons (pe_call G1 hr rfl o1.mgf o1.kp o1.bd .nil pass0 (pa_cons (pv 2) (pa_cons (pv 3) pa_nil))) pa_nil))))
      (pss_cons (ps_set (i := 7) nd rfl (Or.inl rfl) (pe_lst pa_nil))
      (pss_cons (ps_for PassesOwn.never rfl (pi_range1 rfl mr (pa_cons (pe_ix ix_tup (pe_fld (pv 0) rfl) (pv 4) (fun _ _ => rfl)) pa_nil)) (pg_name (i := 8) nd rfl (Or.inl rfl))
        (pss_one (ps_expr (pe_bm PySem.F.plainAttrs_list PySem.F.slot_list_append PySem.F.type_list_append mt_append (pv 7) (pa_cons (pe_ifExp (pt_cmp (pc_din hu (pv 8) (pv 6))) (pe_dget hu (pv 6) (pv 8) (fun _ _ => rfl)) (pe_meth0 (pv 0) T.cl oN.mt GN hr oN.bd .nil pass0)) pa_nil)))))
      (pss_one (ps_asg pe_bl (pg_sub (pe_ix ix_list (pe_fld (pv 0) rfl) (pv 4) (fun _ _ => rfl)) (pe_callTy call_tuple_of rfl mt (by rfl) (pa_cons (pv 7) pa_nil)) (set_n hu)))))))), ?_⟩
    obtain ⟨hk, _⟩ := ok.bd k _ R.steps
    have hdm := List.mem_of_getElem? hd
    have dok : DepOk A.n A.wf (.within t cs o os) := ok.dep _ hdm
    have dsm : DepSm (.within t cs o os) := ok.small _ hdm
    obtain ⟨d1, d2, d3, d4, d5, d6, d7⟩ := dok
    have wo := ok.wid o d2
    have wx := (X.wid _ _ hx).2
    have hstl := R.open' hcl
    refine ⟨_, rfl, p, C, dx, _, _, rfl, X.ob, T.cl, T.nSt, lkSt, .inl ⟨rfl, _, SqL.of X.st⟩, ?_⟩
    refine ⟨_, rfl, _, rfl, by show 3 ≤ sizeLine; decide, fun q1 hq1 => ?_⟩
    have f1 : Fm Non H (upd H q1 (.tup [.str "put", .int (i : Int), .ref a])) := .new hq1
    have X1 := X.fm f1
    refine ⟨s.sl, _, _, rfl, rfl, X1.st, by rw [sizeLine_eq]; omega, ?_⟩
    have X2 := X1.putSt (xs := s.stp ++ [.ref q1])
    have f2 : Fm (fun z => z = s.sl) H _ := (f1.weak fun _ z => z.elim).trans (.mut (o := .lst (s.stp ++ [.ref q1])) X1.st (fun _ => lst_ne) rfl)
    generalize hH2 : upd (upd H q1 (.tup [.str "put", .int (i : Int), .ref a])) s.sl (.lst (s.stp ++ [.ref q1])) = H2 at X2 f2 ⊢
    -- columns, other, others
    obtain ⟨es, e, h1, h2, b1, b2, h3, h4, h5⟩ := X2.sta.dep hd
    refine ⟨_, rfl, p, C, dx, _, _, rfl, X2.ob, T.cl, T.nBk, lkBk, _, rfl, bk, _, _, _, rfl, rfl, .of h1, atI_nat h2, _, rfl, e, _, 2, rfl, rfl, rfl, .of h3, by decide, (by show 2 ≤ 5; decide), fun q2 hq2 => ?_⟩
    have f3 : Fm Non H2 (upd H2 q2 (.tup [.ref b1, .int (o : Int), .ref b2])) := .new hq2
    refine ⟨q2, [.ref b1, .int (o : Int), .ref b2], rfl, .of upd_same, rfl, _, _, rfl, _, _, rfl, _, _, rfl, rfl, ?_⟩
    have X3 := X2.fm f3
    have f23 := f2.trans (f3.weak fun _ z => z.elim)
    -- told
    refine ⟨_, rfl, _, rfl, _, rfl, a, b1, x, cs, rfl, .of (f23.tk _ _ ra), .of (f3.ob _ _ h4 id), fun c hc => by rw [wx]; exact d6 c hc, by have := dsm.1; omega, fun pa H4 hpa f4 r4 => ?_⟩
    have X4 := X3.fm f4
    have hol : os.length = (picks x cs).length := by simp [picks, d4]
    refine ⟨b2, pa, iN os, picks x cs, rfl, .of (by rw [← nV_ints]; exact (f3.trans f4).ob _ _ h5 id), .of r4, fun td htd => ?_⟩
    have f5 : Fm Non H4 (upd H4 td (.dK (mergeK [] (zipK (iN os) (picks x cs))))) := .new htd
    have X5 := X4.fm f5
    -- made
    refine ⟨Nat.zero_le _, fun md hmd => ?_⟩
    have f6 : Fm Non (upd H4 td (.dK (mergeK [] (zipK (iN os) (picks x cs))))) (upd (upd H4 td (.dK (mergeK [] (zipK (iN os) (picks x cs))))) md (.lst [])) := .new hmd
    have X6 := X5.fm f6
    have tdo : upd (upd H4 td (.dK (mergeK [] (zipK (iN os) (picks x cs))))) md (.lst []) td = some (.dK (mergeK [] (zipK (iN os) (picks x cs)))) := f6.ob _ _ upd_same id
    have mdo : upd (upd H4 td (.dK (mergeK [] (zipK (iN os) (picks x cs))))) md (.lst []) md = some (.lst []) := upd_same
    have fH6 : Fm (fun z => z = s.sl) H (upd (upd H4 td (.dK (mergeK [] (zipK (iN os) (picks x cs))))) md (.lst [])) := f23.trans (((f4.trans f5).trans f6).weak fun _ z => z.elim)
    have nmd : ¬ fp p s md := X5.notIn hmd
    have ntd : ¬ fp p s td := X4.notIn htd
    have hmdH : H md = none := by
      have := ((f23.trans ((f4.trans f5).weak fun _ z => z.elim))).tr _ hmd
      exact this
    generalize hH6 : upd (upd H4 td (.dK (mergeK [] (zipK (iN os) (picks x cs))))) md (.lst []) = H6 at X6 tdo mdo fH6 ⊢
    have ntm : td ≠ md := ne_of tdo mdo (by intro z; cases z)
    -- for column in range(width)
    refine ⟨_, rfl, p, C, dx, _, _, rfl, X6.ob, T.cl, T.nSc, lkSc, _, rfl, sc, _, _, _, rfl, rfl, .of X6.sta.sch, atI_nat (X6.sta.width d2), A.wf o, rfl, by omega, by omega, ?_⟩
    refine for_it walk_r0 (fun i2 σ Hc => ∃ (vals : List Int) (kv : List (Key × V)) (x8 : Option V), σ = [some (.ref p), some (.int (i : Int)), some (.ref a), some (.ref b1), some (.int (o : Int)), some (.ref b2), some (.ref td), some (.ref md), x8] ∧ Fm (fun z => z = md ∨ z = s.sd) H6 Hc ∧
      ChAt P w C A sc bk p dx Hc { s with stp := s.stp ++ [.ref q1], seen := kv } ∧ Hc md = some (.lst (vals.map V.int)) ∧ vals.length = i2 ∧ (∀ (j c : Nat), os[j]? = some c → c < i2 → (picks x cs)[j]? = some (at' vals c)) ∧
      (∀ c : Nat, c < i2 → c ∉ os → at' vals c < 0 ∧ (Sum.inl (at' vals c) : Key) ∉ s.seen.map (·.1) ∧ (Sum.inl (at' vals c) : Key) ∈ kv.map (·.1)) ∧ (∀ c c' : Nat, c < i2 → c' < i2 → c ∉ os → c' ∉ os → c ≠ c' → at' vals c ≠ at' vals c') ∧
      (∀ y, y ∈ s.seen.map (·.1) → y ∈ kv.map (·.1)) ∧ kv.length ≤ s.seen.length + i2) ?_ ?_ ?_ ?_
    · exact ⟨[], s.seen, none, rfl, .refl, X6, mdo, rfl, fun j c _ h => by omega, fun c h => by omega, fun c c' h => by omega, fun y h => h, Nat.le_refl _⟩
    · intro _ _ _ _ _; trivial
    · rintro i2 y σ Hc0 Hc hi2 ⟨vals, kv, x8, rfl, fc, Xc, hm, hvl, v1, v2, v3, sup, hkv⟩ ⟨rfl, rfl⟩
      have tdc : Hc td = some (.dK (mergeK [] (zipK (iN os) (picks x cs)))) := fc.ob _ _ tdo (by rintro (z | z); exact ntm z; exact ntd (by rw [z]; exact .inr (.inr (.inl rfl))))
      have old : ∀ c z, c < i2 → at' (vals ++ [z]) c = at' vals c := fun c z h => by
        have : c < vals.length := by omega
        simp [at', List.getD_eq_getElem?_getD, List.getElem?_append, this]
      have new : ∀ z, at' (vals ++ [z]) i2 = z := fun z => by simp [at', ← hvl]
      refine ⟨_, rfl, .inl ⟨rfl, _, SqL.of hm⟩, ?_⟩
      refine ⟨_, rfl, _, rfl, td, _, rfl, DGet.k (k := Sum.inl (i2 : Int)) tdc, _, rfl, ?_⟩
      by_cases hio : i2 ∈ os
      · obtain ⟨j, hj⟩ := List.getElem?_of_mem hio
        obtain ⟨v, hv⟩ : ∃ v, (picks x cs)[j]? = some v := ⟨_, List.getElem?_eq_getElem (by rw [← hol]; exact (List.getElem?_eq_some_iff.mp hj).1)⟩
        have ht := told_some d5 hol hj hv
        rw [ht]
        refine iteT ⟨_, rfl, _, rfl, td, _, rfl, by rw [← ht]; exact DGet.k (k := Sum.inl (i2 : Int)) tdc, md, _, _, rfl, rfl, hm, by rw [List.length_map, sizeLine_eq]; omega, ?_⟩
        have fm : Fm (fun z => z = md) Hc (upd Hc md (.lst (vals.map V.int ++ [.int v]))) := .mut hm (fun _ => lst_ne) rfl
        refine ⟨vals ++ [v], kv, _, rfl, fc.trans (fm.weak fun _ z => .inl z), Xc.fmS fm fun z hz e => nmd (by rw [← e]; exact hz), by rw [upd_same]; simp, by simp [hvl], fun j' c hc hlt => ?_, fun c hc hco => ?_, fun c c' hc hc' ho ho' hne => ?_, sup, by omega⟩
        · rcases Nat.lt_succ_iff_lt_or_eq.mp hlt with h | h
          · rw [old c v h]; exact v1 j' c hc h
          · subst h
            rw [new v]
            rw [nodup_idx d5 hc hj]
            exact hv
        · rcases Nat.lt_succ_iff_lt_or_eq.mp hc with h | h
          · rw [old c v h]; exact v2 c h hco
          · subst h; exact absurd hio hco
        · rcases Nat.lt_succ_iff_lt_or_eq.mp hc with h | h
          · rcases Nat.lt_succ_iff_lt_or_eq.mp hc' with h' | h'
            · rw [old c v h, old c' v h']; exact v3 c c' h h' ho ho' hne
            · subst h'; exact absurd hio ho'
          · subst h; exact absurd hio ho
      · rw [told_none hol hio]
        refine iteF ?_
        refine ⟨_, rfl, p, dx, _, rfl, Xc.ob, lkNo (by decide +kernel), ?_⟩
        refine ⟨sc, bk, p, dx, _, rfl, Xc, by have := R.lsn; show kv.length < 1000000; omega, fun v hv hvn => ?_⟩
        have hvn : (Sum.inl v : Key) ∉ kv.map (·.1) := hvn
        have Xd := Xc.putSn (kv := putK kv (Sum.inl v) (.bl true)) fun y hy => mem_putK.mpr (.inl hy)
        have fd' : Fm (fun z => z = s.sd) Hc (upd Hc s.sd (.dK (putK kv (Sum.inl v) (.bl true)))) := .mut Xc.sn (fun _ z => nomatch z) rfl
        have hmd2 := fd'.ob _ _ hm fun z => nmd (by rw [z]; exact .inr (.inr (.inl rfl)))
        refine ⟨md, _, _, rfl, rfl, hmd2, by rw [List.length_map, sizeLine_eq]; omega, ?_⟩
        have fm : Fm (fun z => z = md) _ (upd (upd Hc s.sd (.dK (putK kv (Sum.inl v) (.bl true)))) md (.lst (vals.map V.int ++ [.int v]))) := .mut hmd2 (fun _ => lst_ne) rfl
        refine ⟨vals ++ [v], putK kv (Sum.inl v) (.bl true), _, rfl, (fc.trans (fd'.weak fun _ z => .inr z)).trans (fm.weak fun _ z => .inl z), Xd.fmS fm fun z hz e => nmd (by rw [← e]; exact hz), by rw [upd_same]; simp, by simp [hvl], fun j' c hc hlt => ?_, fun c hc hco => ?_, fun c c' hc hc' ho ho' hne => ?_, fun y hy => mem_putK.mpr (.inl (sup y hy)), by have := length_putK kv (Sum.inl v : Key) (.bl true); omega⟩
        · rcases Nat.lt_succ_iff_lt_or_eq.mp hlt with h | h
          · rw [old c v h]; exact v1 j' c hc h
          · subst h; exact absurd (List.mem_of_getElem? hc) hio
        · rcases Nat.lt_succ_iff_lt_or_eq.mp hc with h | h
          · rw [old c v h]
            obtain ⟨g1, g2, g3⟩ := v2 c h hco
            exact ⟨g1, g2, mem_putK.mpr (.inl g3)⟩
          · subst h
            rw [new v]
            exact ⟨hv, fun z => hvn (sup _ z), mem_putK.mpr (.inr rfl)⟩
        · rcases Nat.lt_succ_iff_lt_or_eq.mp hc with h | h
          · rcases Nat.lt_succ_iff_lt_or_eq.mp hc' with h' | h'
            · rw [old c v h, old c' v h']; exact v3 c c' h h' ho ho' hne
            · subst h'
              rw [old c v h, new v]
              exact fun z => hvn (z ▸ (v2 c h ho).2.2)
          · subst h
            rcases Nat.lt_succ_iff_lt_or_eq.mp hc' with h' | h'
            · rw [new v, old c' v h']
              exact fun z => hvn (z ▸ (v2 c' h' ho').2.2)
            · exact absurd h'.symm hne
    · rintro σ Hc ⟨vals, kv, x8, rfl, fc, Xc, hm, hvl, v1, v2, v3, sup, hkv⟩
      obtain ⟨tdd, rs, ht1, ht2, ht3, ht4⟩ := Xc.table d2
      refine ⟨_, rfl, p, C, dx, _, _, rfl, Xc.ob, T.cl, T.nTb, lkTb, _, rfl, s.tl, _, _, _, rfl, rfl, .of Xc.tb, atI_nat ht1, _, rfl, md, _, rfl, .inl ⟨.of hm, fun t1 htn => ?_⟩⟩
      have f7 : Fm Non Hc (upd Hc t1 (.tup (vals.map V.int))) := .new htn
      have X7 := Xc.fm f7
      obtain ⟨kvs, hN, hK⟩ := ht4.fm f7 id
      have hlen : rs.length ≤ 64 := (X.rowsLen ok R ht3 ht4.nodup).1
      have hkl : kvs.length = rs.length := by have := congrArg List.length hK; simpa using this
      refine ⟨tdd, t1, rowK vals, kvs, rfl, rfl, (by rw [rowK_V]; exact upd_same), hN, by rw [sizeLine_eq]; omega, fun H8 np => ?_⟩
      obtain ⟨rs', hr', hm', hl', _⟩ := RowsD.put hK np
      have pk : picks vals os = picks x cs := by
        apply List.ext_getElem?
        intro j
        by_cases hj : j < os.length
        · have e1 : os[j]? = some os[j] := List.getElem?_eq_getElem hj
          have := v1 j os[j] e1 (d7 _ (List.getElem_mem hj))
          rw [this]
          simp [picks, hj]
        · rw [List.getElem?_eq_none (by simp [picks]; omega), List.getElem?_eq_none (by rw [← hol]; omega)]
      have vx : ∀ c ∈ cs, (Sum.inl (at' x c) : Key) ∈ s.seen.map (·.1) := fun c hc => X.inseen t x _ hx (by
        have : c < x.length := by rw [wx]; exact d6 c hc
        simp [at', this])
      have inS : ∀ c, c < A.wf o → (Sum.inl (at' vals c) : Key) ∈ kv.map (·.1) := fun c hc => by
        by_cases hco : c ∈ os
        · obtain ⟨j, hj⟩ := List.getElem?_of_mem hco
          have h1 := v1 j c hj hc
          have h2 := List.mem_of_getElem? h1
          obtain ⟨c', hc', e'⟩ := List.mem_map.mp h2
          rw [← e']
          exact sup _ (vx c' hc')
        · exact (v2 c hc hco).2.2
      obtain ⟨X8, f8⟩ := X7.addRow (r := vals) ht2 ht3 np hr' hm' (fun v hv => by
        obtain ⟨c, hc, rfl⟩ := List.getElem_of_mem hv
        have := inS c (by omega)
        have e : vals[c] = at' vals c := by simp [at', hc]
        rw [e]; exact this) hvl
      have est := st_set ht3 hm'
      have fm6 : Fm (fp p s) H H6 := fH6.weak fun z hz => .inr (.inr (.inr (.inr (.inl hz))))
      have fmc : Fm (fp p s) H Hc := fm6.step fc fun z hz => by
        rcases hz with hz | hz
        · right; rw [hz]; exact hmdH
        · left; exact .inr (.inr (.inl hz))
      have fall : Fm (fp p s) H H8 := (fmc.trans (f7.weak fun _ z => z.elim)).trans (f8.weak fun z hz => .inr (.inr (.inr (.inr (.inr (by rw [hz]; exact List.mem_of_getElem? ht2))))))
      have e5 : (s.stp ++ [V.ref q1]).length = s.stp.length + 1 := by simp
      refine q H8 _ (k + 1) fall X8 (fun z hz => .inl hz) ⟨?_, ?_, ?_, ?_, fun z => ?_, fun _ => ?_⟩ (Nat.lt_succ_self _) hcl vals est pk hvl
      · rw [show stOf (s.Tb.set o rs') = _ from est]
        refine .succ R.steps (.put hdm hx hn hvl pk (fun c hc hco => (v2 c hc hco).1) (fun c hc hco u y hy hin => (v2 c hc hco).2.1 (X.inseen u y _ hy hin)) v3)
      · show (s.stp ++ [V.ref q1]).length ≤ k + 1 + 1; omega
      · have := R.lsn; show kv.length ≤ _; omega
      · have := R.lbc; show s.bec.length ≤ _; omega
      · rw [show s.cl = true from z] at hcl; cases hcl
      · show (s.stp ++ [V.ref q1]).length ≤ k + 1; omega
end
end Nor
end
section
/-! unequal, settle. -/
namespace Nor
open PySem L2 L2.NW
section
variable {P : Program} {w : World} {K : PySem.W.Frag} {mg : Str → Option Value} {base : Heap} {C : Addr} {A : PB} {sc bk p dx : Addr} {H H' : Hp} {s s' : CS} {k : Nat}
abbrev nUneq : List Str := ["self", "index", "left", "right", "firsts", "row", "first"]
theorem scUneq : FnScope nUneq ["self", "index"] (defScope sUnequal) := ⟨rfl, rfl, rfl, by decide +kernel, rfl, by decide +kernel, by decide +kernel⟩
def PairAt (H : Hp) (s : CS) (t : Nat) (l r : List Nat) (z : Addr) : Prop := ∃ (a b : Addr) (x y : Row), Tu H z [.ref a, .ref b] ∧ RowT H a x ∧ RowT H b y ∧ stOf s.Tb t x ∧ stOf s.Tb t y ∧ picks x l = picks y l ∧ picks x r ≠ picks y r
def spUneq (P : Program) (w : World) (C : Addr) (A : PB) : Sp := fun vs H Q _ => ∃ (sc bk p dx : Addr) (s : CS) (k i t : Nat) (l r : List Nat), vs = [.ref p, .int (i : Int)] ∧ ChAt P w C A sc bk p dx H s ∧ Run A k s ∧ A.dl[i]? = some (.settles t l r) ∧
  (∀ H', Fm Non H H' → SatSettles (stOf s.Tb) t l r → Q .non H') ∧ (∀ H' z, Fm Non H H' → PairAt H' s t l r z → Q (.ref z) H')
theorem ok_uneq {f f1 f2 : Addr} {fd fd1 fd2 : FuncData} (ok : A.Ok) (T : Txt K mg C) (F : Fun K "unequal" "Chase.unequal" sUnequal f fd) (o1 : Own K mg "picked" f1 fd1 ["row", "columns"]) (G1 : FnOk P w K mg base CX0 1 f1 fd1 ["row", "columns"] (spPicked K)) (o2 : Own K mg "agree" f2 fd2 ["one", "other", "columns"]) (G2 : FnOk P w K mg base CX0 2 f2 fd2 ["one", "other", "columns"] (spAgree K))
    (ms : mg "sorted" = none) : FnOk P w K mg base CX0 3 f fd ["self", "index"] (spUneq P w C A) := by
  refine F.ok scUneq (fun vs H Q E h => ?_) (fun cdv Ar outer sh H vs Q E hr h => ?_)
  · obtain ⟨sc, bk, p, dx, s, k, i, t, l, r, rfl, _⟩ := h
    rfl
  · obtain ⟨sc, bk, p, dx, s, k, i, t, l, r, rfl, X, R, hd, q1, q2⟩ := h
    have nd := scUneq.nd
    have hu := hu_of hr
    have hr1 : Room 1 _ := hr.mono (by decide)
    refine ⟨_, pss_cons (ps_asg (pe_slice sl_drop (pe_ix ix_tup (pe_fld (pv 0) rfl) (pv 1) (fun _ _ => rfl)) (po_some pe_int) po_none) (pg_tup rfl (pgs_cons (pg_name (i := 2) nd rfl (Or.inl rfl)) (pgs_cons (pg_name (i := 3) nd rfl (Or.inl rfl)) pgs_nil))))
      (pss_cons (ps_set (i := 4) nd rfl (Or.inl rfl) pe_nnew)
      (pss_cons (ps_for PassesOwn.never rfl (pi_list (pe_callB (cr_sortN rfl hr.units) rfl ms PyProof.Rows.boot_sorted (pa_cons (pe_ix ix_list (pe_fld (pv 0) rfl) (pe_ix ix_tup (pe_ix ix_tup (pe_fld (pv 0) rfl) (pv 1) (fun _ _ => rfl)) pe_int (fun _ _ => rfl)) (fun _ _ => rfl)) pa_nil))) (pg_name (i := 5) nd rfl (Or.inl rfl))
        (pss_cons (ps_set (i := 6) nd rfl (Or.inl rfl) (pe_nsetd hu (pv 4) (pe_call G1 hr1 rfl o1.mgf o1.kp o1.bd .nil pass0 (pa_cons (pv 5) (pa_cons (pv 2) pa_nil))) (pv 5) ⟨rfl, rfl, rfl, rfl⟩))
        (pss_one (ps_if (pt_not (pt_val (pe_call G2 hr rfl o2.mgf o2.kp o2.bd .nil pass0 (pa_cons (pv 6) (pa_cons (pv 5) (pa_cons (pv 3) pa_nil)))))) (pss_one (ps_ret (pe_tup (pa_cons (pv 6) (pa_cons (pv 5) pa_nil))))) pss_nil))))
      (pss_one (ps_ret pe_non)))), ?_⟩
    have hdm := List.mem_of_getElem? hd
    have dok : DepOk A.n A.wf (.settles t l r) := ok.dep _ hdm
    have dsm : DepSm (.settles t l r) := ok.small _ hdm
    obtain ⟨d1, d2, d3⟩ := dok
    obtain ⟨es, e, h1, h2, b1, b2, h3, h4, h5⟩ := X.sta.dep hd
    have wt := ok.wid t d1
    -- left, right
    refine ⟨_, rfl, p, C, dx, _, _, rfl, X.ob, T.cl, T.nBk, lkBk, _, rfl, bk, _, _, _, rfl, rfl, .of h1, atI_nat h2, _, rfl, e, _, 2, rfl, rfl, rfl, .of h3, by decide, (by show 2 ≤ 4; decide), fun z1 hz1 => ?_⟩
    have f1 : Fm Non H (upd H z1 (.tup [.ref b1, .ref b2])) := .new hz1
    refine ⟨z1, [.ref b1, .ref b2], rfl, .of upd_same, rfl, _, _, rfl, _, _, rfl, rfl, ?_⟩
    -- firsts
    intro fs H2 hfs np
    have f2 : Fm Non (upd H z1 (.tup [.ref b1, .ref b2])) H2 := .putnew np hfs
    have f12 := f1.trans f2
    have X2 := X.fm f12
    obtain ⟨td, rs, ht1, ht2, ht3, ht4⟩ := X2.table d1
    obtain ⟨kvs, hN, hK⟩ := id ht4
    have hrl := X.rowsLen ok R ht3 ht4.nodup
    refine ⟨_, rfl, p, C, dx, _, _, rfl, X2.ob, T.cl, T.nTb, lkTb, _, rfl, p, C, dx, _, _, rfl, X2.ob, T.cl, T.nBk, lkBk, _, rfl, bk, _, _, _, rfl, rfl, .of (f12.ob _ _ h1 id), atI_nat h2, e, _, _, _, rfl, rfl, .of (f12.ob _ _ h3 id), atI_nat (j := 1) rfl, s.tl, _, _, _, rfl, rfl, .of X2.tb, atI_nat ht1, ?_⟩
    refine ⟨td, kvs, rs, rfl, hN, hK, fun r0 hr0 => (by have := hrl.2 r0 hr0; intro z; rw [z] at this; simp at this; omega), fun qs lp hqs hrow hlp => ?_⟩
    have f3 : Fm Non H2 (upd H2 lp (.lst (qs.map fun z => V.ref z.1))) := .new hlp
    have np3 := f3.nd np.dict id
    have hlpo : upd H2 lp (.lst (qs.map fun z => V.ref z.1)) lp = some (.lst (qs.map fun z => V.ref z.1)) := upd_same
    generalize hH3 : upd H2 lp (.lst (qs.map fun z => V.ref z.1)) = H3 at f3 np3 hlpo ⊢
    have f13 := f12.trans f3
    have hfsH : H fs = none := f1.tr _ hfs
    have hql : qs.length = rs.length := by have := hqs.length_eq; simpa using this
    have inT : ∀ z ∈ qs, stOf s.Tb t z.2 := fun z hz => ⟨rs, ht3, hqs.mem_iff.mp (List.mem_map.mpr ⟨z, hz, rfl⟩)⟩
    have nlf : lp ≠ fs := by
      obtain ⟨_, _, z⟩ := np3.ob
      exact ne_of hlpo z fun e => rawD_nl.1 _ e.symm
    -- for row in sorted(..)
    refine ⟨lp, rfl, ⟨_, .of hlpo⟩, for_list (K := K) (a := lp) (xs := qs.map fun z => V.ref z.1) (fun j σ Hc => ∃ (reps : List (Addr × Row)) (x5 x6 : Option V), σ = [some (.ref p), some (.int (i : Int)), some (.ref b1), some (.ref b2), some (.ref fs), x5, x6] ∧ Fm (fun x => x = fs) H3 Hc ∧
      NDict P w Hc fs (reps.map fun s => (rowK (picks s.2 l), V.ref s.1)) ∧ reps.length ≤ j ∧ (∀ s ∈ reps, s ∈ qs) ∧ (∀ s ∈ qs.take j, ∃ s' ∈ reps, picks s'.2 l = picks s.2 l ∧ picks s'.2 r = picks s.2 r)) ?_ ?_ ?_ ?_⟩
    · exact ⟨[], _, _, rfl, .refl, np3, Nat.le_refl _, fun s hs => by simp at hs, fun s hs => by simp at hs⟩
    · rintro j σ Hc _ ⟨_, _, _, _, f, _⟩
      exact .of (f.ob _ _ hlpo nlf)
    · rintro j y σ Hc hy ⟨reps, x5, x6, rfl, fc, ndc, lnc, subc, covc⟩
      obtain ⟨u, hu', rfl⟩ := map_at hy
      have huq := List.mem_of_getElem? hu'
      have hjq : j < qs.length := (List.getElem?_eq_some_iff.mp hu').1
      have fH := f13.sub fc hfsH
      have wu : ∀ z ∈ qs, z.2.length = A.wf t := fun z hz => (X.wid _ _ (inT z hz)).2
      have rowT : ∀ z ∈ qs, RowT Hc z.1 z.2 := fun z hz => fc.tk _ _ (f3.tk _ _ (hrow z hz))
      have t4 := fH.tk _ _ h4
      have t5 := fH.tk _ _ h5
      refine ⟨_, rfl, fs, rfl, ⟨_, ndc⟩, _, rfl, _, rfl, u.1, b1, u.2, l, rfl, .of (rowT u huq), .of t4, fun c hc => by rw [wu u huq]; exact d2 c hc, by have := dsm.1; omega, fun pa Hd hpa fd' rd => ?_⟩
      have ndd := fd'.nd ndc id
      have fcd := fc.trans (fd'.weak fun _ z => z.elim)
      refine ⟨_, rfl, pa, rowK (picks u.2 l), _, rfl, (by rw [rowK_V]; exact rd), ndd, (by rw [List.length_map, sizeLine_eq]; omega), fun v hv => ?_, fun hv He npe => ?_⟩
      · obtain ⟨sv, hsv, e1, e2⟩ : ∃ sv ∈ reps, picks sv.2 l = picks u.2 l ∧ v = .ref sv.1 := by
          have : ∀ (l0 : List (Addr × Row)), valV (l0.map fun s => (rowK (picks s.2 l), V.ref s.1)) (rowK (picks u.2 l)) = some v → ∃ sv ∈ l0, picks sv.2 l = picks u.2 l ∧ v = .ref sv.1 := by
            intro l0
            induction l0 with
            | nil => intro h; cases h
            | cons z l0 ih =>
              intro h
              by_cases hz : rowK (picks z.2 l) = rowK (picks u.2 l)
              · rw [List.map_cons, valV_pos hz] at h
                exact ⟨z, List.mem_cons_self, rowK_inj hz, (Option.some.inj h).symm⟩
              · rw [List.map_cons, valV_neg hz] at h
                obtain ⟨sv, g1, g2⟩ := ih h
                exact ⟨sv, List.mem_cons_of_mem _ g1, g2⟩
          exact this reps hv
        subst e2
        refine ⟨_, rfl, _, rfl, _, rfl, sv.1, u.1, b2, sv.2, u.2, r, rfl, .of (fd'.tk _ _ (rowT sv (subc sv hsv))), .of (fd'.tk _ _ (rowT u huq)), .of (fd'.tk _ _ t5), fun c hc => by rw [wu sv (subc sv hsv)]; exact d3 c hc, fun c hc => by rw [wu u huq]; exact d3 c hc, by have := dsm.2; omega, fun Hf ff => ?_⟩
        refine ⟨_, rfl, ?_⟩
        by_cases hag : picks sv.2 r = picks u.2 r
        · rw [decide_eq_true hag]
          refine iteF ⟨reps, _, _, rfl, fcd.trans (ff.weak fun _ z => z.elim), ff.nd ndd id, by omega, subc, fun z hz => ?_⟩
          rcases (mem_take_succ hu').mp hz with hz | rfl
          · exact covc z hz
          · exact ⟨sv, hsv, e1, hag⟩
        · rw [decide_eq_false hag]
          refine iteT ⟨_, rfl, _, rfl, by show 2 ≤ sizeLine; decide, fun z hz => ?_⟩
          have fz : Fm Non Hf _ := .new (o := .tup [.ref sv.1, .ref u.1]) hz
          exact q2 _ z (((fH.trans fd').trans ff).trans fz) ⟨sv.1, u.1, sv.2, u.2, upd_same, fz.tk _ _ (ff.tk _ _ (fd'.tk _ _ (rowT sv (subc sv hsv)))), fz.tk _ _ (ff.tk _ _ (fd'.tk _ _ (rowT u huq))), inT sv (subc sv hsv), inT u huq, e1, hag⟩
      · have fe : Fm (fun x => x = fs) Hd He := .put npe ndd rfl
        refine ⟨_, rfl, _, rfl, _, rfl, u.1, u.1, b2, u.2, u.2, r, rfl, .of (fe.tk _ _ (fd'.tk _ _ (rowT u huq))), .of (fe.tk _ _ (fd'.tk _ _ (rowT u huq))), .of (fe.tk _ _ (fd'.tk _ _ t5)), fun c hc => by rw [wu u huq]; exact d3 c hc, fun c hc => by rw [wu u huq]; exact d3 c hc, by have := dsm.2; omega, fun Hf ff => ?_⟩
        refine ⟨_, rfl, ?_⟩
        rw [decide_eq_true rfl]
        refine iteF ⟨reps ++ [u], _, _, rfl, (fcd.trans fe).trans (ff.weak fun _ z => z.elim), ff.nd ?_ id, by rw [List.length_append, List.length_singleton]; omega, fun z hz => ?_, fun z hz => ?_⟩
        · have := npe.dict
          rw [putK_new _ hv] at this
          rw [List.map_append]
          exact this
        · rcases List.mem_append.mp hz with hz | hz
          · exact subc z hz
          · rw [List.mem_singleton.mp hz]; exact huq
        · rcases (mem_take_succ hu').mp hz with hz | rfl
          · obtain ⟨s', g1, g2⟩ := covc z hz
            exact ⟨s', List.mem_append_left _ g1, g2⟩
          · exact ⟨z, List.mem_append_right _ (List.mem_singleton_self _), rfl, rfl⟩
    · rintro σ Hc ⟨reps, x5, x6, rfl, fc, ndc, lnc, subc, covc⟩
      rw [List.length_map] at lnc covc
      rw [List.take_length] at covc
      refine q1 Hc (f13.sub fc hfsH) ?_
      rintro x y ⟨rs1, g1, hx⟩ ⟨rs2, g2, hy⟩ hxy
      have er1 : rs1 = rs := by have := g1.symm.trans ht3; exact Option.some.inj this
      have er2 : rs2 = rs := by have := g2.symm.trans ht3; exact Option.some.inj this
      subst er1
      subst er2
      obtain ⟨u, hu1, rfl⟩ := List.mem_map.mp (hqs.mem_iff.mpr hx)
      obtain ⟨v, hv1, rfl⟩ := List.mem_map.mp (hqs.mem_iff.mpr hy)
      obtain ⟨su, hsu, u1, u2⟩ := covc u hu1
      obtain ⟨sv, hsv, v1, v2⟩ := covc v hv1
      have hnd := ndc.nodup
      rw [List.map_map] at hnd
      obtain ⟨iu, hiu⟩ := List.getElem?_of_mem hsu
      obtain ⟨iv, hiv⟩ := List.getElem?_of_mem hsv
      have eq : rowK (picks su.2 l) = rowK (picks sv.2 l) := by rw [u1, v1, hxy]
      have := nodup_idx (x := rowK (picks su.2 l)) hnd (i := iu) (j := iv) (by rw [List.getElem?_map, hiu]; rfl) (by rw [List.getElem?_map, hiv]; simp [eq])
      rw [this, hiv] at hiu
      have e := Option.some.inj hiu
      rw [← u2, ← v2, e]
end
end Nor
end
section
/-! settle, fill. -/
namespace Nor
open PySem L2 L2.NW
theorem sat_of_parts {wf : Nat → Nat} {U : Store} {d : Dep} {t : Nat} {ps : List (List Nat)} (hp : d.parts wf = some (t, ps)) (s : SatParts U (wf t) t ps) : Sat wf U d := by
  cases d with
  | settles => cases hp
  | within => cases hp
  | joins t' ps' => cases hp; exact s
  | deals t' l r => cases hp; exact s
theorem parts_small {wf : Nat → Nat} {d : Dep} {t : Nat} {ps : List (List Nat)} (hp : d.parts wf = some (t, ps)) (hs : DepSm d) (hw : wf t ≤ 4) : ps.length ≤ 3 ∧ ∀ q ∈ ps, q.length ≤ 1000 := by
  cases d with
  | settles => cases hp
  | within => cases hp
  | joins t' ps' => cases hp; exact ⟨hs.1, fun q hq => by have := hs.2 q hq; omega⟩
  | deals t' l r =>
    cases hp
    refine ⟨(by simp [dealParts]), fun q hq => ?_⟩
    simp only [dealParts, List.mem_cons, List.not_mem_nil, or_false] at hq
    have : ∀ f : Nat → Bool, ((List.range (wf t)).filter f).length ≤ 1000 := fun f => by
      have := List.length_filter_le f (List.range (wf t))
      rw [List.length_range] at this
      omega
    rcases hq with rfl | rfl <;> exact this _
section
variable {P : Program} {w : World} {K : PySem.W.Frag} {mg : Str → Option Value} {base : Heap} {C : Addr} {A : PB} {sc bk p dx : Addr} {H H' : Hp} {s s' : CS} {k : Nat}
/-- what a turn at one dependency leaves -/
def WorkQ (P : Program) (w : World) (C : Addr) (A : PB) (sc bk p dx : Addr) (H : Hp) (s : CS) (k : Nat) (d : Dep) (Q : VK) : Prop :=
  (∀ H', Fm Non H H' → Sat A.wf (stOf s.Tb) d → Q (.bl false) H') ∧ After P w C A sc bk p dx H s k fun H' s' k' => (k < k' ∨ s'.cl = true) → k ≤ k' → Q (.bl true) H'
def spWork (P : Program) (w : World) (C : Addr) (A : PB) (G : Dep → Prop) : Sp := fun vs H Q _ => ∃ (sc bk p dx : Addr) (s : CS) (k i : Nat) (d : Dep), vs = [.ref p, .int (i : Int)] ∧ ChAt P w C A sc bk p dx H s ∧ Run A k s ∧ s.cl = false ∧ A.dl[i]? = some d ∧ G d ∧ WorkQ P w C A sc bk p dx H s k d Q
def isSettles : Dep → Prop
  | .settles _ _ _ => True
  | _ => False
def isWithin : Dep → Prop
  | .within _ _ _ _ => True
  | _ => False
/-- the state behind a look for two rows -/
def SettleW (P : Program) (w : World) (C : Addr) (A : PB) (sc bk p dx : Addr) (H : Hp) (s : CS) (k i t : Nat) (l r : List Nat) : Nat → St → Hp → Prop := fun m σ H2 => ∃ (s2 : CS) (k2 : Nat) (b : Bool) (x : V), m = (2001 - k2) * 2 + (if s2.cl = true then 0 else 1) ∧ σ = [some (.ref p), some (.int (i : Int)), some (.bl b), some x] ∧ Fm (fp p s) H H2 ∧
  ChAt P w C A sc bk p dx H2 s2 ∧ (∀ x, fp p s2 x → fp p s x ∨ H x = none) ∧ Run A k2 s2 ∧ k ≤ k2 ∧ (b = false → Fm Non H H2 ∧ s2 = s ∧ k2 = k) ∧ (b = true → k < k2 ∨ s2.cl = true) ∧ ((x = .non ∧ SatSettles (stOf s2.Tb) t l r) ∨ ∃ z, x = .ref z ∧ PairAt H2 s2 t l r z)
abbrev nSettle : List Str := ["self", "index", "taken", "rows"]
theorem scSettle : FnScope nSettle ["self", "index"] (defScope sSettle) := ⟨rfl, rfl, rfl, by decide +kernel, rfl, by decide +kernel, by decide +kernel⟩
theorem ok_settle {f f1 f2 : Addr} {fd fd1 fd2 : FuncData} (ok : A.Ok) (T : Txt K mg C) (F : Fun K "settle" "Chase.settle" sSettle f fd) (o1 : OwnM K C "unequal" f1 fd1 ["self", "index"]) (G1 : FnOk P w K mg base CX0 3 f1 fd1 ["self", "index"] (spUneq P w C A))
    (o2 : OwnM K C "make_equal" f2 fd2 ["self", "index", "one", "other"]) (G2 : FnOk P w K mg base CX0 2 f2 fd2 ["self", "index", "one", "other"] (spMakeEq P w C A)) : FnOk P w K mg base CX0 4 f fd ["self", "index"] (spWork P w C A isSettles) := by
  refine F.ok scSettle (fun vs H Q E h => ?_) (fun cdv Ar outer sh H vs Q E hr h => ?_)
  · obtain ⟨sc, bk, p, dx, s, k, i, d, rfl, _⟩ := h
    rfl
  · obtain ⟨sc, bk, p, dx, s, k, i, d, rfl, X, R, hcl, hd, hG, qF, qT⟩ := h
    have nd := scSettle.nd
    have hu := hu_of hr
    refine ⟨_, pss_cons (ps_set (i := 2) nd rfl (Or.inl rfl) pe_bl)
      (pss_cons (ps_set (i := 3) nd rfl (Or.inl rfl) (pe_meth (pv 0) T.cl o1.mt G1 hr o1.bd .nil pass0 (pa_cons (pv 1) pa_nil)))
      (pss_cons (ps_while PassesOwn.never (PW.pt (pw_and (pt_cmp (pc_notN (pv 3)) rfl) (pw_and1 (pt_not (pt_val (pe_fld (pv 0) rfl))))))
        (pss_cons (ps_expr (pe_meth (pv 0) T.cl o2.mt G2 (hr.mono (by decide)) o2.bd .nil pass0 (pa_cons (pv 1) (pa_cons (pe_ix ix_tup (pv 3) pe_int (fun _ _ => rfl)) (pa_cons (pe_ix ix_tup (pv 3) pe_int (fun _ _ => rfl)) pa_nil)))))
        (pss_cons (ps_set (i := 2) nd rfl (Or.inl rfl) pe_bl)
        (pss_one (ps_set (i := 3) nd rfl (Or.inl rfl) (pe_meth (pv 0) T.cl o1.mt G1 hr o1.bd .nil pass0 (pa_cons (pv 1) pa_nil)))))))
      (pss_one (ps_ret (pv 2))))), ?_⟩
    cases d with
    | deals => exact hG.elim
    | joins => exact hG.elim
    | within => exact hG.elim
    | settles t l r =>
      refine ⟨_, rfl, p, dx, _, rfl, X.ob, lkNo (by decide +kernel), _, rfl, sc, bk, p, dx, s, k, i, t, l, r, rfl, X, R, hd, fun H1 f1 hsat => ?_, fun H1 z f1 hpair => ?_⟩
      all_goals
        refine ⟨SettleW P w C A sc bk p dx H s k i t l r, ⟨_, s, k, false, _, rfl, rfl, f1.weak fun _ z => z.elim, X.fm f1, fun _ z => .inl z, R, Nat.le_refl _, fun _ => ⟨f1, rfl, rfl⟩, fun z => (by cases z), (by first | exact .inl ⟨rfl, hsat⟩ | exact .inr ⟨z, rfl, hpair⟩)⟩, ?_⟩
        rintro m σ H2 ⟨s2, k2, b, x, rfl, rfl, f2, X2, sub2, R2, hk2, hF, hT, hx⟩
        have hk2b := (ok.bd k2 _ R2.steps).1
        refine ⟨_, rfl, _, rfl, ?_⟩
        rcases hx with ⟨rfl, hsat2⟩ | ⟨z2, rfl, a, b', x, y, tz, ra, rb, hx, hy, hxy, hne⟩
        · -- none
          refine iteF (iteF ⟨_, rfl, ?_⟩)
          cases b with
          | true => exact qT H2 s2 k2 f2 X2 sub2 R2 (hT rfl) hk2
          | false =>
            obtain ⟨g1, rfl, rfl⟩ := hF rfl
            exact qF H2 g1 hsat2
        · refine iteT ⟨_, rfl, p, C, dx, _, _, rfl, X2.ob, T.cl, T.nCl, lkCl, _, rfl, ?_⟩
          cases hc2 : s2.cl with
          | true =>
            refine iteF ⟨_, rfl, ?_⟩
            cases b with
            | true => exact qT H2 s2 k2 f2 X2 sub2 R2 (hT rfl) hk2
            | false =>
              obtain ⟨g1, rfl, rfl⟩ := hF rfl
              rw [hcl] at hc2; cases hc2
          | false =>
            refine iteT ⟨fun σ' H' => ∃ m', m' < _ ∧ SettleW P w C A sc bk p dx H s k i t l r m' σ' H', fun σ' H' h => h, ?_⟩
            refine ⟨_, rfl, p, dx, _, rfl, X2.ob, lkNo (by decide +kernel), _, rfl, _, rfl, z2, _, _, _, rfl, rfl, .of tz, atI_nat (j := 0) rfl, _, rfl, z2, _, _, _, rfl, rfl, .of tz, atI_nat (j := 1) rfl, ?_⟩
            refine ⟨sc, bk, p, dx, s2, k2, i, t, a, b', l, r, x, y, rfl, X2, R2, hc2, hd, hx, hy, ra, rb, hxy, hne, fun H3 s3 k3 f3 X3 sub3 R3 hor hle => ?_⟩
            have f23 := f2.step f3 sub2
            have sub23 : ∀ x, fp p s3 x → fp p s x ∨ H x = none := fun x hx => (sub3 x hx).elim (sub2 x) fun h => .inr (f2.tr _ h)
            have hm : (2001 - k3) * 2 + (if s3.cl = true then 0 else 1) < (2001 - k2) * 2 + (if s2.cl = true then 0 else 1) := by
              have := (ok.bd k3 _ R3.steps).1
              rw [hc2]
              rcases hor with h | h
              · split <;> simp <;> omega
              · rw [h]; simp; omega
            refine ⟨_, rfl, p, dx, _, rfl, X3.ob, lkNo (by decide +kernel), _, rfl, sc, bk, p, dx, s3, k3, i, t, l, r, rfl, X3, R3, hd, fun H4 f4 hsat => ?_, fun H4 z f4 hpair => ?_⟩
            all_goals
              refine ⟨_, (by rw [← hc2]; exact hm), s3, k3, true, _, rfl, rfl, f23.trans (f4.weak fun _ z => z.elim), X3.fm f4, sub23, R3, by omega, fun z => (by cases z), fun _ => ?_, (by first | exact .inl ⟨rfl, hsat⟩ | exact .inr ⟨_, rfl, hpair⟩)⟩
              rcases hor with h | h
              · exact .inl (by omega)
              · exact .inr h
end
end Nor
end
section
/-! fill. -/
namespace Nor
open PySem L2 L2.NW
section
variable {P : Program} {w : World} {K : PySem.W.Frag} {mg : Str → Option Value} {base : Heap} {C : Addr} {A : PB} {sc bk p dx : Addr} {H H' : Hp} {s s' : CS} {k : Nat}
def isParts (wf : Nat → Nat) (d : Dep) : Prop := ∃ t ps, d.parts wf = some (t, ps)
abbrev nFill : List Str := ["self", "index", "dependency", "width", "rows", "missing", "row", "chosen"]
theorem scFill : FnScope nFill ["self", "index"] (defScope sFill) := ⟨rfl, rfl, rfl, by decide +kernel, rfl, by decide +kernel, by decide +kernel⟩
theorem ok_fill {f f1 f2 f3 : Addr} {fd fd1 fd2 fd3 : FuncData} (ok : A.Ok) (T : Txt K mg C) (F : Fun K "fill" "Chase.fill" sFill f fd) (o1 : Own K mg "parts_of" f1 fd1 ["width", "dependency"]) (G1 : FnOk P w K mg base CX0 1 f1 fd1 ["width", "dependency"] (spPartsOf K))
    (o2 : Own K mg "missing_rows" f2 fd2 ["width", "rows", "parts"]) (G2 : FnOk P w K mg base CX0 2 f2 fd2 ["width", "rows", "parts"] (spMissing K P w)) (o3 : OwnM K C "put_in" f3 fd3 ["self", "index", "rows", "missing"]) (G3 : FnOk P w K mg base CX0 1 f3 fd3 ["self", "index", "rows", "missing"] (spPutIn P w C A))
    (ms : mg "sorted" = none) (ml : mg "len" = none) : FnOk P w K mg base CX0 4 f fd ["self", "index"] (spWork P w C A (isParts A.wf)) := by
  refine F.ok scFill (fun vs H Q E h => ?_) (fun cdv Ar outer sh H vs Q E hr h => ?_)
  · obtain ⟨sc, bk, p, dx, s, k, i, d, rfl, _⟩ := h
    rfl
  · obtain ⟨sc, bk, p, dx, s, k, i, d, rfl, X, R, hcl, hd, ⟨t, ps, hp⟩, qF, qT⟩ := h
    have nd := scFill.nd
    have hu := hu_of hr
    refine ⟨_, pss_cons (ps_set (i := 2) nd rfl (Or.inl rfl) (pe_ix ix_tup (pe_fld (pv 0) rfl) (pv 1) (fun _ _ => rfl)))
      (pss_cons (ps_set (i := 3) nd rfl (Or.inl rfl) (pe_ix ix_tup (pe_fld (pv 0) rfl) (pe_ix ix_tup (pv 2) pe_int (fun _ _ => rfl)) (fun _ _ => rfl)))
      (pss_cons (ps_set (i := 4) nd rfl (Or.inl rfl) (pe_callB (cr_sortN rfl hr.units) rfl ms PyProof.Rows.boot_sorted (pa_cons (pe_ix ix_list (pe_fld (pv 0) rfl) (pe_ix ix_tup (pv 2) pe_int (fun _ _ => rfl)) (fun _ _ => rfl)) pa_nil)))
      (pss_cons (ps_set (i := 5) nd rfl (Or.inl rfl) (pe_call G2 (hr.mono (by decide)) rfl o2.mgf o2.kp o2.bd .nil pass0 (pa_cons (pv 3) (pa_cons (pv 4) (pa_cons (pe_call G1 (hr.mono (by decide)) rfl o1.mgf o1.kp o1.bd .nil pass0 (pa_cons (pv 3) (pa_cons (pv 2) pa_nil))) pa_nil)))))
      (pss_cons (ps_for PassesOwn.never rfl (pi_nitems (pv 5)) (pg_tup rfl (pgs_cons (pg_name (i := 6) nd rfl (Or.inl rfl)) (pgs_cons (pg_name (i := 7) nd rfl (Or.inl rfl)) pgs_nil)))
        (pss_one (ps_expr (pe_meth (pv 0) T.cl o3.mt G3 (hr.mono (by decide)) o3.bd .nil pass0 (pa_cons (pv 1) (pa_cons (pv 7) (pa_cons (pv 6) pa_nil)))))))
      (pss_one (ps_ret (pe_cmpR op_gt (pe_callB call_nlen rfl ml PySem.boot_len (pa_cons (pv 5) pa_nil)) pe_int (nomark _)))))))), ?_⟩
    have hdm := List.mem_of_getElem? hd
    have pok := parts_ok (ok.dep _ hdm) hp
    obtain ⟨p1, p2, p3, p4⟩ := pok
    have wt := ok.wid t p1
    have psm := parts_small hp (ok.small _ hdm) wt.2
    obtain ⟨es, e, h1, h2, h3⟩ := X.sta.dep hd
    obtain ⟨xs, hx0, _, hx1⟩ := h3.head
    rw [parts_tab hp] at hx1
    -- dependency, width
    refine ⟨_, rfl, p, C, dx, _, _, rfl, X.ob, T.cl, T.nBk, lkBk, _, rfl, bk, _, _, _, rfl, rfl, .of h1, atI_nat h2, ?_⟩
    refine ⟨_, rfl, p, C, dx, _, _, rfl, X.ob, T.cl, T.nSc, lkSc, _, rfl, e, _, _, _, rfl, rfl, .of hx0, atI_nat (j := 1) hx1, sc, _, _, _, rfl, rfl, .of X.sta.sch, atI_nat (X.sta.width p1), ?_⟩
    -- rows
    obtain ⟨td, rs, ht1, ht2, ht3, ht4⟩ := X.table p1
    obtain ⟨kvs, hN, hK⟩ := id ht4
    have hrl := X.rowsLen ok R ht3 ht4.nodup
    refine ⟨_, rfl, p, C, dx, _, _, rfl, X.ob, T.cl, T.nTb, lkTb, _, rfl, e, _, _, _, rfl, rfl, .of hx0, atI_nat (j := 1) hx1, s.tl, _, _, _, rfl, rfl, .of X.tb, atI_nat ht1, ?_⟩
    refine ⟨td, kvs, rs, rfl, hN, hK, fun r0 hr0 => (by have := hrl.2 r0 hr0; intro z; rw [z] at this; simp at this; omega), fun qs lp hqs hrow hlp => ?_⟩
    have f1 : Fm Non H (upd H lp (.lst (qs.map fun z => V.ref z.1))) := .new hlp
    have hlpo : upd H lp (.lst (qs.map fun z => V.ref z.1)) lp = some (.lst (qs.map fun z => V.ref z.1)) := upd_same
    generalize hH1 : upd H lp (.lst (qs.map fun z => V.ref z.1)) = H1 at f1 hlpo ⊢
    have hql : qs.length = rs.length := by have := hqs.length_eq; simpa using this
    have inQ : ∀ r, r ∈ qs.map (·.2) ↔ stOf s.Tb t r := fun r => by
      rw [hqs.mem_iff]
      constructor
      · exact fun h => ⟨rs, ht3, h⟩
      · rintro ⟨rs2, g, h⟩
        rw [ht3] at g
        rw [Option.some.inj g]; exact h
    -- missing
    refine ⟨_, rfl, _, rfl, _, rfl, _, rfl, A.wf t, t, e, d, A.wf, ps, rfl, h3.tk f1.tk, hp, rfl, by omega, fun pp H2 f2 hpp => ?_⟩
    have f12 := f1.trans f2
    refine ⟨A.wf t, lp, pp, qs, ps, rfl, .of (f2.ob _ _ hlpo id), fun z hz => f12.tk _ _ (hrow z hz), fun z hz => (X.wid _ _ ((inQ z.2).mp (List.mem_map.mpr ⟨z, hz, rfl⟩))).2, by rw [hql]; exact hrl.1, hpp, psm.1, wt.1, by omega, p3, psm.2, p4, fun md H3 ms' kvm f3 hmd ndm hkm hmem => ?_⟩
    have f13 := f12.trans f3
    have X3 := X.fm f13
    have nmd : ¬ fp p s md := (X.fm f12).notIn hmd
    obtain ⟨es0, ep0, na⟩ := id ndm
    have hml : kvm.length = ms'.length := by have := congrArg List.length hkm; simpa using this
    have hmn : ms'.Nodup := mapK_nodup.mp (by have := ndm.nodup; rw [hkm] at this; exact this)
    -- for row, chosen in missing.items()
    refine ⟨_, rfl, md, es0, ep0, rfl, na.sys, na.ob, for_it (walk_ni na) (fun j σ Hc => ∃ (s2 : CS) (k2 : Nat) (x6 x7 : Option V), σ = [some (.ref p), some (.int (i : Int)), some (.ref e), some (.int (A.wf t : Int)), some (.ref lp), some (.ref md), x6, x7] ∧ Fm (fp p s) H3 Hc ∧ ChAt P w C A sc bk p dx Hc s2 ∧
      (∀ x, fp p s2 x → fp p s x ∨ H3 x = none) ∧ Run A k2 s2 ∧ k + j ≤ k2 ∧ s2.cl = false ∧ (∀ r, stOf s2.Tb t r ↔ stOf s.Tb t r ∨ r ∈ ms'.take j) ∧ (j = 0 → Fm Non H Hc)) ?_ ?_ ?_ ?_⟩
    · exact ⟨s, k, _, _, rfl, .refl, X3, fun _ z => .inl z, R, Nat.le_refl _, hcl, fun r => by simp, fun _ => f13⟩
    · rintro j σ Hc _ ⟨_, _, _, _, _, f, _⟩
      exact f.ob _ _ na.ob nmd
    · rintro j y σ Hc0 Hc hj ⟨s2, k2, x6, x7, rfl, fc, X2, sub2, R2, hk2, hc2, hst, _⟩ ⟨Tp, kk, v, av, rfl, hTp, rfl, hkv, hav⟩
      have e1 : (kvm.map (·.1))[j]? = some kk := by rw [List.getElem?_map, hkv]; rfl
      rw [hkm, List.getElem?_map] at e1
      cases hr : ms'[j]? with
      | none => rw [hr] at e1; cases e1
      | some r =>
        rw [hr] at e1
        have e2 : rowK r = kk := by simpa using e1
        subst e2
        rw [rowK_V] at hav
        have hrm := (hmem r).mp (List.mem_of_getElem? hr)
        have ft : Fm Non Hc0 (upd Hc0 Tp (.tup [.ref av, v])) := .new hTp
        have X2t := X2.fm ft
        refine ⟨Tp, [.ref av, v], rfl, .of upd_same, rfl, _, _, rfl, _, _, rfl, rfl, ?_⟩
        refine ⟨_, rfl, p, dx, _, rfl, X2t.ob, lkNo (by decide +kernel), _, rfl, _, rfl, _, rfl, ?_⟩
        have nin : r ∉ ms'.take j := fun h => by
          obtain ⟨j', hj'⟩ := List.getElem?_of_mem h
          rw [List.getElem?_take] at hj'
          split at hj'
          · rename_i hlt
            have := nodup_idx hmn hj' hr
            omega
          · cases hj'
        have nst : ¬ stOf s2.Tb t r := fun h => ((hst r).mp h).elim (fun h => hrm.2.1 ((inQ r).mpr h)) nin
        refine ⟨sc, bk, p, dx, s2, k2, i, t, v, av, d, ps, r, rfl, X2t, R2, hc2, hd, hp, (ft.tk _ _ (fc.tk _ _ hav)), hrm.1, nst, fun q hq => ?_, fun H5 s5 k5 f5 X5 sub5 R5 hk5 hc5 hst5 => ?_⟩
        · obtain ⟨x, hx, hxe⟩ := hrm.2.2 q hq
          exact ⟨x, (hst x).mpr (.inl ((inQ x).mp hx)), hxe⟩
        · have fct := fc.trans (ft.weak fun _ z => z.elim)
          refine ⟨s5, k5, _, _, rfl, fct.step f5 sub2, X5, fun x hx => (sub5 x hx).elim (sub2 x) fun h => .inr (fct.tr _ h), R5, by omega, hc5, fun r' => ?_, fun h => by omega⟩
          rw [hst5]
          show (stOf s2.Tb t r' ∨ _) ↔ _
          rw [hst r', mem_take_succ hr]
          constructor
          · rintro ((h | h) | ⟨_, h⟩)
            · exact .inl h
            · exact .inr (.inl h)
            · exact .inr (.inr h)
          · rintro (h | h | h)
            · exact .inl (.inl h)
            · exact .inl (.inr h)
            · exact .inr ⟨rfl, h⟩
    · rintro σ Hc ⟨s2, k2, x6, x7, rfl, fc, X2, sub2, R2, hk2, hc2, hst, hz⟩
      refine ⟨_, rfl, md, kvm, rfl, fc.nd ndm nmd, _, _, rfl, rfl, ?_⟩
      cases hms : ms' with
      | nil =>
        have h0 : kvm.length = 0 := by rw [hml, hms]; rfl
        rw [h0]
        refine qF Hc (hz h0) (sat_of_parts hp fun r hr hj => ?_)
        by_cases hin : stOf s.Tb t r
        · exact hin
        · have := (hmem r).mpr ⟨hr, fun h => hin ((inQ r).mp h), fun q hq => by
            obtain ⟨a, ha, hae⟩ := hj q hq
            exact ⟨a, (inQ a).mpr ha, hae⟩⟩
          rw [hms] at this
          cases this
      | cons r0 ms2 =>
        have h0 : 0 < kvm.length := by rw [hml, hms]; simp
        have e9 : decide ((0 : Int) < (kvm.length : Int)) = true := decide_eq_true (by omega)
        show Q (.bl (decide ((0 : Int) < (kvm.length : Int)))) Hc
        rw [e9]
        exact qT Hc s2 k2 ((f13.weak fun _ z => z.elim).trans fc) X2 (fun x hx => (sub2 x hx).elim .inl fun h => .inr (f13.tr _ h)) R2 (.inl (by omega)) (by omega)
end
end Nor
end
section
/-! lead, work. -/
namespace Nor
open PySem L2 L2.NW
section
variable {P : Program} {w : World} {K : PySem.W.Frag} {mg : Str → Option Value} {base : Heap} {C : Addr} {A : PB} {sc bk p dx : Addr} {H H' : Hp} {s s' : CS} {k : Nat}
abbrev nLead : List Str := ["self", "index", "table", "columns", "other", "others", "row", "known", "taken", "values"]
theorem scLead : FnScope nLead ["self", "index"] (defScope sLead) := ⟨rfl, rfl, rfl, by decide +kernel, rfl, by decide +kernel, by decide +kernel⟩
theorem ok_lead {f f1 f2 : Addr} {fd fd1 fd2 : FuncData} (ok : A.Ok) (T : Txt K mg C) (F : Fun K "lead" "Chase.lead" sLead f fd) (o1 : Own K mg "picked" f1 fd1 ["row", "columns"]) (G1 : FnOk P w K mg base CX0 1 f1 fd1 ["row", "columns"] (spPicked K))
    (o2 : OwnM K C "put_below" f2 fd2 ["self", "index", "row"]) (G2 : FnOk P w K mg base CX0 2 f2 fd2 ["self", "index", "row"] (spPutB P w C A)) (ms : mg "sorted" = none) : FnOk P w K mg base CX0 4 f fd ["self", "index"] (spWork P w C A isWithin) := by
  refine F.ok scLead (fun vs H Q E h => ?_) (fun cdv Ar outer sh H vs Q E hr h => ?_)
  · obtain ⟨sc, bk, p, dx, s, k, i, d, rfl, _⟩ := h
    rfl
  · obtain ⟨sc, bk, p, dx, s, k, i, d, rfl, X, R, hcl, hd, hG, qF, qT⟩ := h
    have nd := scLead.nd
    have hu := hu_of hr
    have hu0 := Nat.lt_of_succ_lt hu
    have hr1 : Room 1 _ := hr.mono (by decide)
    refine ⟨_, pss_cons (ps_asg (pe_slice sl_drop (pe_ix ix_tup (pe_fld (pv 0) rfl) (pv 1) (fun _ _ => rfl)) (po_some pe_int) po_none) (pg_tup rfl (pgs_cons (pg_name (i := 2) nd rfl (Or.inl rfl)) (pgs_cons (pg_name (i := 3) nd rfl (Or.inl rfl)) (pgs_cons (pg_name (i := 4) nd rfl (Or.inl rfl)) (pgs_cons (pg_name (i := 5) nd rfl (Or.inr rfl)) pgs_nil))))))
      (pss_cons (ps_setDc (i := 7) (own := [("row", 6)]) (vs := [6]) (g := gName 6) (tt := tYes) (tb := tNKey P w (tCall (spPicked K) [] (fun _ _ _ => False) (tCons (tVar 6) (tCons (tVar 5) tNil))) (tC (.bl true))) (fun D => rawD D #[] 0) rfl nd rfl rfl (swD_true rfl rfl rfl (by decide +kernel)) (fun H h hb => ho_N hb) (by intro g hg; simp at hg; rw [hg]) (pi_nkeys (pe_ix ix_list (pe_fld (pv 0) rfl) (pv 4) (fun _ _ => rfl))) (blkOk_by (N := nLead) (sc := defScope sLead) (by decide +kernel)) (fun _ _ _ _ _ => pg_name (i := 6) nd rfl (Or.inl rfl)) (fun _ _ _ _ _ => pts_nil)
          (fun _ _ _ _ _ => em_nkey rfl hu0 rfl (pe_call G1 hr1 rfl o1.mgf o1.kp o1.bd .nil pass0 (pa_cons (pv 6) (pa_cons (pv 5) pa_nil))) pe_bl))
      (pss_cons (ps_set (i := 8) nd rfl (Or.inl rfl) pe_bl)
      (pss_cons (ps_for PassesOwn.never rfl (pi_list (pe_callB (cr_sortN rfl hr.units) rfl ms PyProof.Rows.boot_sorted (pa_cons (pe_ix ix_list (pe_fld (pv 0) rfl) (pv 2) (fun _ _ => rfl)) pa_nil))) (pg_name (i := 6) nd rfl (Or.inl rfl))
        (pss_cons (ps_set (i := 9) nd rfl (Or.inl rfl) (pe_call G1 hr1 rfl o1.mgf o1.kp o1.bd .nil pass0 (pa_cons (pv 6) (pa_cons (pv 3) pa_nil))))
        (pss_one (ps_if (pt_cmpR (op_nnotin hu) (pv 9) (pv 7) rfl)
          (pss_cons (ps_asg pe_bl (pg_sub (pv 7) (pv 9) (set_n hu)))
          (pss_cons (ps_expr (pe_meth (pv 0) T.cl o2.mt G2 (hr.mono (by decide)) o2.bd .nil pass0 (pa_cons (pv 1) (pa_cons (pv 6) pa_nil))))
          (pss_one (ps_set (i := 8) nd rfl (Or.inl rfl) pe_bl)))) pss_nil))))
      (pss_one (ps_ret (pv 8)))))), ?_⟩
    cases d with
    | settles => exact hG.elim
    | deals => exact hG.elim
    | joins => exact hG.elim
    | within t cs o os =>
      have hdm := List.mem_of_getElem? hd
      have dok : DepOk A.n A.wf (.within t cs o os) := ok.dep _ hdm
      have dsm : DepSm (.within t cs o os) := ok.small _ hdm
      obtain ⟨d1, d2, d3, d4, d5, d6, d7⟩ := dok
      have wt := ok.wid t d1
      obtain ⟨es, e, h1, h2, b1, b2, h3, h4, h5⟩ := X.sta.dep hd
      -- table, columns, other, others
      refine ⟨_, rfl, p, C, dx, _, _, rfl, X.ob, T.cl, T.nBk, lkBk, _, rfl, bk, _, _, _, rfl, rfl, .of h1, atI_nat h2, _, rfl, e, _, 1, rfl, rfl, rfl, .of h3, by decide, (by show 1 ≤ 5; decide), fun z1 hz1 => ?_⟩
      have f1 : Fm Non H (upd H z1 (.tup [.int (t : Int), .ref b1, .int (o : Int), .ref b2])) := .new hz1
      refine ⟨z1, [.int (t : Int), .ref b1, .int (o : Int), .ref b2], rfl, .of upd_same, rfl, _, _, rfl, _, _, rfl, _, _, rfl, _, _, rfl, rfl, ?_⟩
      have X1 := X.fm f1
      obtain ⟨to, ro, ho1, ho2, ho3, ho4⟩ := X1.table d2
      obtain ⟨kvo, hNo, hKo⟩ := id ho4
      obtain ⟨eso, epo, nao⟩ := id hNo
      have hrlo := X.rowsLen ok R ho3 ho4.nodup
      have hlo : kvo.length = ro.length := by have := congrArg List.length hKo; simpa using this
      -- known
      refine ⟨_, rfl, p, C, dx, _, _, rfl, X1.ob, T.cl, T.nTb, lkTb, _, rfl, s.tl, _, _, _, rfl, rfl, .of X1.tb, atI_nat ho1, to, eso, epo, rfl, nao.sys, nao.ob, fun kn hkn hsys => ?_⟩
      have hknH : H kn = none := f1.tr _ hkn
      have np0 : NPut P w (upd H z1 (.tup [.int (t : Int), .ref b1, .int (o : Int), .ref b2])) kn [] _ := nput_new hsys
      refine dc_it (walk_nk nao) (fun j Hc => ∃ kv : List (TKey × V), Fm Non (upd H z1 (.tup [.int (t : Int), .ref b1, .int (o : Int), .ref b2])) Hc ∧ NDict P w Hc kn kv ∧ kv.length ≤ j ∧ ∀ key, key ∈ kv.map (·.1) ↔ ∃ y ∈ ro.take j, key = rowK (picks y os)) rfl ⟨[], .putnew np0 hkn, np0.dict, Nat.le_refl _, fun key => by simp⟩ (fun j Hc _ ⟨_, f, _⟩ => f.ob _ _ nao.ob id) ?_ ?_
      · rintro j x Hc0 Hc hj ⟨kv, fc, ndk, lnk, mk⟩ ⟨rfl, kk, v, av, hkv, rfl, hav⟩
        have e1 : (kvo.map (·.1))[j]? = some kk := by rw [List.getElem?_map, hkv]; rfl
        rw [hKo, List.getElem?_map] at e1
        cases hr : ro[j]? with
        | none => rw [hr] at e1; cases e1
        | some y =>
          rw [hr] at e1
          have e2 : rowK y = kk := by simpa using e1
          subst e2
          rw [rowK_V] at hav
          have hym := List.mem_of_getElem? hr
          have wy := hrlo.2 y hym
          refine ⟨rfl, _, rfl, _, rfl, av, b2, y, os, rfl, .of (fc.tk _ _ hav), .of (fc.tk _ _ (f1.tk _ _ h5)), fun c hc => by rw [wy]; exact d7 c hc, by have := dsm.2; omega, fun pa Hd hpa fd' rd => ?_⟩
          have ndd := fd'.nd ndk id
          refine ⟨pa, rowK (picks y os), kv, rfl, (by rw [rowK_V]; exact rd), ndd, by rw [sizeLine_eq]; omega, fun He np => ?_⟩
          refine ⟨_, (fc.trans fd').sub (.put np ndd rfl) hkn, np.dict, by have := length_putK kv (rowK (picks y os)) (V.bl true); omega, fun key => ?_⟩
          rw [mem_putK, mk key]
          constructor
          · rintro (⟨y', g1, g2⟩ | g)
            · exact ⟨y', (mem_take_succ hr).mpr (.inl g1), g2⟩
            · exact ⟨y, (mem_take_succ hr).mpr (.inr rfl), g⟩
          · rintro ⟨y', g1, g2⟩
            rcases (mem_take_succ hr).mp g1 with g1 | rfl
            · exact .inl ⟨y', g1, g2⟩
            · exact .inr g2
      · rintro Hk ⟨kv, fk, ndk, lnk, mk⟩
        rw [hlo, List.take_length] at mk
        have fHk := f1.trans fk
        have Xk := X.fm fHk
        have nkn : ¬ fp p s kn := X1.notIn hkn
        have mk0 : ∀ key, key ∈ kv.map (·.1) ↔ ∃ y, stOf s.Tb o y ∧ key = rowK (picks y os) := fun key => by
          rw [mk key]
          constructor
          · rintro ⟨y, g1, g2⟩; exact ⟨y, ⟨ro, ho3, g1⟩, g2⟩
          · rintro ⟨y, ⟨r2, g0, g1⟩, g2⟩
            have : r2 = ro := by have := g0.symm.trans ho3; exact Option.some.inj this
            subst this
            exact ⟨y, g1, g2⟩
        -- taken = False; for row in sorted(..)
        obtain ⟨td, rs, ht1, ht2, ht3, ht4⟩ := Xk.table d1
        obtain ⟨kvt, hN, hK⟩ := id ht4
        have hrl := X.rowsLen ok R ht3 ht4.nodup
        refine ⟨_, rfl, p, C, dx, _, _, rfl, Xk.ob, T.cl, T.nTb, lkTb, _, rfl, s.tl, _, _, _, rfl, rfl, .of Xk.tb, atI_nat ht1, ?_⟩
        refine ⟨td, kvt, rs, rfl, hN, hK, fun r0 hr0 => (by have := hrl.2 r0 hr0; intro z; rw [z] at this; simp at this; omega), fun qs lp hqs hrow hlp => ?_⟩
        have fl : Fm Non Hk (upd Hk lp (.lst (qs.map fun z => V.ref z.1))) := .new hlp
        have hlpo : upd Hk lp (.lst (qs.map fun z => V.ref z.1)) lp = some (.lst (qs.map fun z => V.ref z.1)) := upd_same
        have nlp : ¬ fp p s lp := Xk.notIn hlp
        have nlk : lp ≠ kn := by obtain ⟨_, _, z⟩ := ndk.ob; exact (ne_of_none z hlp).symm
        generalize hHl : upd Hk lp (.lst (qs.map fun z => V.ref z.1)) = Hl at fl hlpo ⊢
        have fHl := fHk.trans fl
        have ndl := fl.nd ndk id
        have hql : qs.length = rs.length := by have := hqs.length_eq; simpa using this
        have inT : ∀ z ∈ qs, stOf s.Tb t z.2 := fun z hz => ⟨rs, ht3, hqs.mem_iff.mp (List.mem_map.mpr ⟨z, hz, rfl⟩)⟩
        have rowT : ∀ {H'}, TK Hl H' → ∀ z ∈ qs, RowT H' z.1 z.2 := fun tk z hz => tk _ _ (fl.tk _ _ (hrow z hz))
        refine ⟨lp, rfl, ⟨_, .of hlpo⟩, for_list (K := K) (a := lp) (xs := qs.map fun z => V.ref z.1) (fun j σ Hc => ∃ (s2 : CS) (k2 : Nat) (b : Bool) (kv2 : List (TKey × V)) (x6 x9 : Option V), σ = [some (.ref p), some (.int (i : Int)), some (.int (t : Int)), some (.ref b1), some (.int (o : Int)), some (.ref b2), x6, some (.ref kn), some (.bl b), x9] ∧
          Fm (fun x => fp p s x ∨ x = kn) Hl Hc ∧ ChAt P w C A sc bk p dx Hc s2 ∧ (∀ x, fp p s2 x → fp p s x ∨ Hl x = none) ∧ Run A k2 s2 ∧ k ≤ k2 ∧ s2.cl = false ∧ NDict P w Hc kn kv2 ∧ kv2.length ≤ 64 + j ∧ (∀ key, key ∈ kv2.map (·.1) ↔ ∃ y, stOf s2.Tb o y ∧ key = rowK (picks y os)) ∧
          (∀ z ∈ qs, stOf s2.Tb t z.2) ∧ (b = false → Fm Non H Hc ∧ s2 = s) ∧ (b = true → k < k2) ∧ ∀ z ∈ qs.take j, ∃ y, stOf s2.Tb o y ∧ picks y os = picks z.2 cs) ?_ ?_ ?_ ?_⟩
        · exact ⟨s, k, false, kv, _, _, rfl, .refl, Xk.fm fl, fun _ z => .inl z, R, Nat.le_refl _, hcl, ndl, by omega, mk0, inT, fun _ => ⟨fHl, rfl⟩, fun z => (by cases z), fun z hz => by simp at hz⟩
        · rintro j σ Hc _ ⟨_, _, _, _, _, _, _, f, _⟩
          exact .of (f.ob _ _ hlpo (by rintro (z | z); exact nlp z; exact nlk z))
        · rintro j y σ Hc hy ⟨s2, k2, b, kv2, x6, x9, rfl, fc, X2, sub2, R2, hk2, hc2, nd2, ln2, mk2, in2, hbF, hbT, done⟩
          obtain ⟨u, hu', rfl⟩ := map_at hy
          have huq := List.mem_of_getElem? hu'
          have hjq : j < qs.length := (List.getElem?_eq_some_iff.mp hu').1
          have wu : u.2.length = A.wf t := (X.wid _ _ (inT u huq)).2
          -- values = picked(row, columns)
          refine ⟨_, rfl, _, rfl, u.1, b1, u.2, cs, rfl, .of (rowT fc.tk u huq), .of (fc.tk _ _ (fHl.tk _ _ h4)), fun c hc => by rw [wu]; exact d6 c hc, by have := dsm.1; omega, fun pa Hd hpa fd' rd => ?_⟩
          have fcd : Fm (fun x => fp p s x ∨ x = kn) Hl Hd := fc.trans (fd'.weak fun _ z => z.elim)
          have ndd := fd'.nd nd2 id
          have Xd := X2.fm fd'
          refine ⟨_, rfl, _, rfl, pa, kn, rowK (picks u.2 cs), kv2, rfl, rfl, (by rw [rowK_V]; exact rd), ndd, _, rfl, ?_⟩
          cases hv : valV kv2 (rowK (picks u.2 cs)) with
          | some v =>
            obtain ⟨y, g1, g2⟩ := (mk2 _).mp (valV_in hv)
            refine ⟨s2, k2, b, kv2, _, _, rfl, fcd, Xd, sub2, R2, hk2, hc2, ndd, by omega, mk2, in2, fun hb => ?_, hbT, fun z hz => ?_⟩
            · obtain ⟨g3, g4⟩ := hbF hb
              exact ⟨g3.trans fd', g4⟩
            · rcases (mem_take_succ hu').mp hz with hz | rfl
              · exact done z hz
              · exact ⟨y, g1, (rowK_inj g2).symm⟩
          | none =>
            have hout := valV_not hv
            refine ⟨_, rfl, _, rfl, kn, pa, rowK (picks u.2 cs), kv2, rfl, rfl, (by rw [rowK_V]; exact rd), ndd, by rw [sizeLine_eq]; omega, fun He np => ?_⟩
            have fe : Fm (fun x => x = kn) Hd He := .put np ndd rfl
            have nkn2 : ¬ fp p s2 kn := fun z => (sub2 kn z).elim nkn fun h => by obtain ⟨_, _, g⟩ := ndl.ob; rw [h] at g; cases g
            have Xe := Xd.fmS fe fun z hz e => nkn2 (by rw [← e]; exact hz)
            refine ⟨_, rfl, p, dx, _, rfl, Xe.ob, lkNo (by decide +kernel), _, rfl, _, rfl, ?_⟩
            refine ⟨sc, bk, p, dx, s2, k2, i, t, o, u.1, cs, os, u.2, rfl, Xe, R2, hc2, hd, fe.tk _ _ (fd'.tk _ _ (rowT fc.tk u huq)), in2 u huq, fun y hy e => hout ((mk2 _).mpr ⟨y, hy, by rw [e]⟩), fun H5 s5 k5 f5 X5 sub5 R5 hk5 hc5 r hst5 hpk hrl => ?_⟩
            have fce : Fm (fun x => fp p s x ∨ x = kn) Hl He := fcd.trans (fe.weak fun _ z => .inr z)
            have fc5 : Fm (fun x => fp p s x ∨ x = kn) Hl H5 := fce.step f5 fun x hx => (sub2 x hx).elim (fun h => .inl (.inl h)) .inr
            refine ⟨s5, k5, true, putK kv2 (rowK (picks u.2 cs)) (.bl true), _, _, rfl, fc5, X5, fun x hx => (sub5 x hx).elim (sub2 x) fun h => .inr (fce.tr _ h), R5, by omega, hc5, f5.nd np.dict nkn2, by have := length_putK kv2 (rowK (picks u.2 cs)) (V.bl true); omega, fun key => ?_, fun z hz => ?_, fun z => (by cases z), fun _ => by omega, fun z hz => ?_⟩
            · rw [mem_putK, mk2 key, hst5]
              constructor
              · rintro (⟨y, g1, g2⟩ | g)
                · exact ⟨y, .inl g1, g2⟩
                · exact ⟨r, .inr ⟨rfl, rfl⟩, by rw [g, hpk]⟩
              · rintro ⟨y, g1 | ⟨_, rfl⟩, g2⟩
                · exact .inl ⟨y, g1, g2⟩
                · exact .inr (by rw [g2, hpk])
            · rw [hst5]
              exact .inl (in2 z hz)
            · rw [hst5]
              rcases (mem_take_succ hu').mp hz with hz | rfl
              · obtain ⟨y, g1, g2⟩ := done z hz
                exact ⟨y, .inl g1, g2⟩
              · exact ⟨r, .inr ⟨rfl, rfl⟩, hpk⟩
        · rintro σ Hc ⟨s2, k2, b, kv2, x6, x9, rfl, fc, X2, sub2, R2, hk2, hc2, nd2, ln2, mk2, in2, hbF, hbT, done⟩
          rw [List.length_map, List.take_length] at done
          refine ⟨_, rfl, ?_⟩
          cases b with
          | false =>
            obtain ⟨g1, rfl⟩ := hbF rfl
            refine qF Hc g1 ?_
            rintro x ⟨rs2, g2, hx⟩
            have : rs2 = rs := by have := g2.symm.trans ht3; exact Option.some.inj this
            subst this
            obtain ⟨z, hz, rfl⟩ := List.mem_map.mp (hqs.mem_iff.mpr hx)
            exact done z hz
          | true =>
            refine qT Hc s2 k2 ?_ X2 (fun x hx => (sub2 x hx).elim .inl fun h => .inr (fHl.tr _ h)) R2 (.inl (hbT rfl)) hk2
            exact (fHl.weak fun _ z => z.elim).step fc fun x hx => hx.elim .inl fun h => .inr (by rw [h]; exact hknH)
end
end Nor
end
section
/-! work, run. -/
namespace L2.NW
open PySem PySem.Spec PyProof.Rows
theorem lc_accG {J : It} {n : Nat} {G : Hp → Prop} {Y : Nat → Hp → V → Hp → Prop} (w : Walk J n G Y) {g : TG} {tt : TT} {te : TE} {vs : List Nat} {σ : St} {H1 : Hp} {D : Addr} {Qd : Hp → Prop} {S : Addr → Prop}
    (A : Nat → List V → Hp → Prop) (hn : n ≤ 100000) (hD : H1 D = none) (hS : ¬ S D) (hG : ∀ H, Fm S H1 H → G H) (mono : ∀ i acc H H', A i acc H → Fm (fun a => a = D) H H' → A i acc H') (h0 : A 0 [] H1)
    (hs : ∀ i x acc H H', i < n → Fm S H1 H → A i acc H → H D = some (.lst acc) → Y i H x H' → ∀ (Qt : VK) (Qf : Hp → Prop), (∀ y H4, Fm S H H4 → A (i + 1) (acc ++ [y]) H4 → Qt y H4) → (∀ H3, Fm S H H3 → A (i + 1) acc H3 → Qf H3) →
      g x (wipe σ vs) H' fun σ2 H2 => wipe σ2 vs = wipe σ vs ∧ tt σ2 H2 fun b H3 => if b = true then te σ2 H3 Qt else Qf H3)
    (hd : ∀ acc H, Fm S H1 H → acc.length ≤ n → H D = some (.lst acc) → A n acc H → Qd H) :
    ∃ W : Nat → Nat → Hp → Prop, (∃ m, W 0 m (upd H1 D (.lst []))) ∧ ∀ i m H, W i m H →
      (J.stop i H ∧ Qd H) ∨ (J.go i H ∧ ∃ Nx : Hp → Prop, (∀ H', Nx H' → ∃ m', m' < m ∧ W (i + 1) m' H') ∧ ∀ x H', J.yld i H x H' → g x (wipe σ vs) H' fun σ2 H2 => wipe σ2 vs = wipe σ vs ∧ tt σ2 H2 fun b H3 =>
        if b = true then te σ2 H3 fun y H4 => ∃ acc, H4 D = some (.lst acc) ∧ acc.length < sizeLine ∧ Nx (upd H4 D (.lst (acc ++ [y]))) else Nx H3) := by
  have hz : 100000 < sizeLine := by decide
  refine lc_it w (fun i H => ∃ acc, acc.length ≤ i ∧ Fm S H1 H ∧ H D = some (.lst acc) ∧ A i acc H) ⟨[], Nat.le_refl _, .new hD, upd_same, mono _ _ _ _ h0 (.new hD)⟩ (fun i H _ ⟨_, _, f, _⟩ => hG H f) ?_ fun H ⟨acc, hl, f, hd', a⟩ => hd acc H f hl hd' a
  rintro i x H H' hi ⟨acc, hl, f, hd', a⟩ y
  refine hs i x acc H H' hi f a hd' y _ _ (fun v H4 f4 a4 => ?_) fun H3 f3 a3 => ⟨acc, by omega, f.trans f3, f3.ob _ _ hd' hS, a3⟩
  have d4 := f4.ob _ _ hd' hS
  refine ⟨acc, d4, by omega, acc ++ [v], by rw [List.length_append, List.length_singleton]; omega, ?_, upd_same, mono _ _ _ _ a4 (.mut d4 (fun _ => lst_ne) rfl)⟩
  exact ((f.trans f4).weak fun _ z => .inl z).trans (.mut d4 (fun _ => lst_ne) (.inr rfl)) |>.off hD
end L2.NW
namespace Nor
open PySem L2 L2.NW
section
variable {P : Program} {w : World} {K : PySem.W.Frag} {mg : Str → Option Value} {base : Heap} {C : Addr} {A : PB} {sc bk p dx : Addr} {H H' : Hp} {s s' : CS} {k : Nat}
abbrev nWork : List Str := ["self", "index", "kind"]
theorem scWork : FnScope nWork ["self", "index"] (defScope sWork) := ⟨rfl, rfl, rfl, by decide +kernel, rfl, by decide +kernel, by decide +kernel⟩
theorem ok_work {f f1 f2 f3 : Addr} {fd fd1 fd2 fd3 : FuncData} (ok : A.Ok) (T : Txt K mg C) (F : Fun K "work" "Chase.work" sWork f fd) (o1 : OwnM K C "settle" f1 fd1 ["self", "index"]) (G1 : FnOk P w K mg base CX0 4 f1 fd1 ["self", "index"] (spWork P w C A isSettles))
    (o2 : OwnM K C "lead" f2 fd2 ["self", "index"]) (G2 : FnOk P w K mg base CX0 4 f2 fd2 ["self", "index"] (spWork P w C A isWithin)) (o3 : OwnM K C "fill" f3 fd3 ["self", "index"]) (G3 : FnOk P w K mg base CX0 4 f3 fd3 ["self", "index"] (spWork P w C A (isParts A.wf))) :
    FnOk P w K mg base CX0 5 f fd ["self", "index"] (spWork P w C A fun _ => True) := by
  refine F.ok scWork (fun vs H Q E h => ?_) (fun cdv Ar outer sh H vs Q E hr h => ?_)
  · obtain ⟨sc, bk, p, dx, s, k, i, d, rfl, _⟩ := h
    rfl
  · obtain ⟨sc, bk, p, dx, s, k, i, d, rfl, X, R, hcl, hd, _, q⟩ := h
    have nd := scWork.nd
    refine ⟨_, pss_cons (ps_set (i := 2) nd rfl (Or.inl rfl) (pe_ix ix_tup (pe_ix ix_tup (pe_fld (pv 0) rfl) (pv 1) (fun _ _ => rfl)) pe_int (fun _ _ => rfl)))
      (pss_cons (ps_if (pt_cmpR op_eq (pv 2) pe_str (nomark _)) (pss_one (ps_ret (pe_meth (pv 0) T.cl o1.mt G1 hr o1.bd .nil pass0 (pa_cons (pv 1) pa_nil)))) pss_nil)
      (pss_cons (ps_if (pt_cmpR op_eq (pv 2) pe_str (nomark _)) (pss_one (ps_ret (pe_meth (pv 0) T.cl o2.mt G2 hr o2.bd .nil pass0 (pa_cons (pv 1) pa_nil)))) pss_nil)
      (pss_one (ps_ret (pe_meth (pv 0) T.cl o3.mt G3 hr o3.bd .nil pass0 (pa_cons (pv 1) pa_nil)))))), ?_⟩
    obtain ⟨es, e, h1, h2, h3⟩ := X.sta.dep hd
    obtain ⟨xs, hx0, hx1, _⟩ := h3.head
    refine ⟨_, rfl, p, C, dx, _, _, rfl, X.ob, T.cl, T.nBk, lkBk, _, rfl, bk, _, _, _, rfl, rfl, .of h1, atI_nat h2, e, _, _, _, rfl, rfl, .of hx0, atI_nat (j := 0) hx1, ?_⟩
    refine ⟨_, rfl, rfl, _, rfl, ?_⟩
    cases d with
    | settles t l r =>
      exact iteT ⟨_, rfl, p, dx, _, rfl, X.ob, lkNo (by decide +kernel), _, rfl, sc, bk, p, dx, s, k, i, _, rfl, X, R, hcl, hd, True.intro, q⟩
    | within t cs o os =>
      refine ifS_ne (by show ¬ (("within" : Str) = "settles"); decide +kernel) ?_
      refine ⟨_, rfl, rfl, _, rfl, ?_⟩
      exact iteT ⟨_, rfl, p, dx, _, rfl, X.ob, lkNo (by decide +kernel), _, rfl, sc, bk, p, dx, s, k, i, _, rfl, X, R, hcl, hd, True.intro, q⟩
    | deals t l r =>
      refine ifS_ne (by show ¬ (("deals" : Str) = "settles"); decide +kernel) ?_
      refine ⟨_, rfl, rfl, _, rfl, ?_⟩
      refine ifS_ne (by show ¬ (("deals" : Str) = "within"); decide +kernel) ?_
      exact ⟨_, rfl, p, dx, _, rfl, X.ob, lkNo (by decide +kernel), _, rfl, sc, bk, p, dx, s, k, i, _, rfl, X, R, hcl, hd, ⟨_, _, rfl⟩, q⟩
    | joins t ps =>
      refine ifS_ne (by show ¬ (("joins" : Str) = "settles"); decide +kernel) ?_
      refine ⟨_, rfl, rfl, _, rfl, ?_⟩
      refine ifS_ne (by show ¬ (("joins" : Str) = "within"); decide +kernel) ?_
      exact ⟨_, rfl, p, dx, _, rfl, X.ob, lkNo (by decide +kernel), _, rfl, sc, bk, p, dx, s, k, i, _, rfl, X, R, hcl, hd, ⟨_, _, rfl⟩, q⟩
/-! ### run -/
def kindNo : Dep → Nat
  | .settles _ _ _ => 0
  | .deals _ _ _ => 1
  | .joins _ _ => 1
  | .within _ _ _ _ => 2
def kNames : Nat → List Str
  | 0 => ["settles"]
  | 1 => ["deals", "joins"]
  | _ => ["within"]
theorem inV_strs (x : Str) (ns : List Str) : inV (.str x) (ns.map V.str) = decide (x ∈ ns) := by
  unfold inV
  induction ns with
  | nil => rfl
  | cons y ns ih =>
    simp only [List.map_cons, List.any_cons, ih]
    show ((y == x) || _) = _
    by_cases h : x = y
    · subst h; simp
    · have : (y == x) = false := beq_eq_false_iff_ne.mpr fun e => h e.symm
      rw [this]; simp [h]
theorem kind_in (d : Dep) : ∀ j, j < 3 → (d.kind ∈ kNames j ↔ kindNo d = j) := by
  have h0 : ∀ x : Str, x ∈ kNames 0 ↔ x = "settles" := fun x => by simp [kNames]
  have h1 : ∀ x : Str, x ∈ kNames 1 ↔ x = "deals" ∨ x = "joins" := fun x => by simp [kNames]
  have h2 : ∀ x : Str, x ∈ kNames 2 ↔ x = "within" := fun x => by simp [kNames]
  have a1 : ¬ (("settles" : Str) = "deals" ∨ ("settles" : Str) = "joins") := by decide +kernel
  have a2 : ¬ (("settles" : Str) = "within") := by decide +kernel
  have b0 : ¬ (("deals" : Str) = "settles") := by decide +kernel
  have b2 : ¬ (("deals" : Str) = "within") := by decide +kernel
  have c0 : ¬ (("joins" : Str) = "settles") := by decide +kernel
  have c2 : ¬ (("joins" : Str) = "within") := by decide +kernel
  have d0 : ¬ (("within" : Str) = "settles") := by decide +kernel
  have d1 : ¬ (("within" : Str) = "deals" ∨ ("within" : Str) = "joins") := by decide +kernel
  intro j hj
  match j, hj with
  | 0, _ =>
    rw [h0]
    cases d with
    | settles => exact ⟨fun _ => rfl, fun _ => rfl⟩
    | deals => exact ⟨fun z => absurd z b0, fun z => by cases z⟩
    | joins => exact ⟨fun z => absurd z c0, fun z => by cases z⟩
    | within => exact ⟨fun z => absurd z d0, fun z => by cases z⟩
  | 1, _ =>
    rw [h1]
    cases d with
    | settles => exact ⟨fun z => absurd z a1, fun z => by cases z⟩
    | deals => exact ⟨fun _ => rfl, fun _ => .inl rfl⟩
    | joins => exact ⟨fun _ => rfl, fun _ => .inr rfl⟩
    | within => exact ⟨fun z => absurd z d1, fun z => by cases z⟩
  | 2, _ =>
    rw [h2]
    cases d with
    | settles => exact ⟨fun z => absurd z a2, fun z => by cases z⟩
    | deals => exact ⟨fun z => absurd z b2, fun z => by cases z⟩
    | joins => exact ⟨fun z => absurd z c2, fun z => by cases z⟩
    | within => exact ⟨fun _ => rfl, fun _ => rfl⟩
abbrev nRun : List Str := ["self", "order", "kinds", "index", "going", "dependency"]
theorem scRun : FnScope nRun ["self"] (defScope sRun) := ⟨rfl, rfl, rfl, by decide +kernel, rfl, by decide +kernel, by decide +kernel⟩
def spRun (P : Program) (w : World) (C : Addr) (A : PB) : Sp := fun vs H Q _ => ∃ (sc bk p dx : Addr) (s : CS) (k : Nat), vs = [.ref p] ∧ ChAt P w C A sc bk p dx H s ∧ Run A k s ∧ s.cl = false ∧
  After P w C A sc bk p dx H s k fun H' s' k' => (s'.cl = false → ∀ d ∈ A.dl, Sat A.wf (stOf s'.Tb) d) → Q .non H'
/-- between two turns of the outer loop -/
def RunW (P : Program) (w : World) (C : Addr) (A : PB) (sc bk p dx ol : Addr) (H : Hp) (s : CS) (k : Nat) (l : List Nat) (x2 : Option V) : Nat → St → Hp → Prop := fun m σ H2 => ∃ (s2 : CS) (k2 : Nat) (b : Bool) (x3 : Option V), m = ((2001 - k2) * 2 + (if s2.cl = true then 0 else 1)) * 2 + (if b = true then 1 else 0) ∧
  σ = [some (.ref p), some (.ref ol), x2, x3, some (.bl b), none] ∧ Fm (fp p s) H H2 ∧ ChAt P w C A sc bk p dx H2 s2 ∧ (∀ x, fp p s2 x → fp p s x ∨ H x = none) ∧ Run A k2 s2 ∧ (b = false → s2.cl = false → ∀ d ∈ A.dl, Sat A.wf (stOf s2.Tb) d)
theorem ok_run {f f1 : Addr} {fd fd1 : FuncData} (ok : A.Ok) (T : Txt K mg C) (F : Fun K "run" "Chase.run" sRun f fd) (o1 : OwnM K C "work" f1 fd1 ["self", "index"]) (G1 : FnOk P w K mg base CX0 5 f1 fd1 ["self", "index"] (spWork P w C A fun _ => True)) (me : mg "enumerate" = none) :
    FnOk P w K mg base CX0 6 f fd ["self"] (spRun P w C A) := by
  refine F.ok scRun (fun vs H Q E h => ?_) (fun cdv Ar outer sh H vs Q E hr h => ?_)
  · obtain ⟨sc, bk, p, dx, s, k, rfl, _⟩ := h
    rfl
  · obtain ⟨sc, bk, p, dx, s, k, rfl, X, R, hcl, q⟩ := h
    have nd := scRun.nd
    have hu := hu_of hr
    refine ⟨_, pss_cons (ps_set (i := 1) nd rfl (Or.inl rfl) (pe_lst pa_nil))
      (pss_cons (ps_for PassesOwn.never rfl (pi_tup (pe_tup (pa_cons (pe_tup (pa_cons pe_str pa_nil)) (pa_cons (pe_tup (pa_cons pe_str (pa_cons pe_str pa_nil))) (pa_cons (pe_tup (pa_cons pe_str pa_nil)) pa_nil))))) (pg_name (i := 2) nd rfl (Or.inr rfl))
        (pss_one (ps_set (i := 1) nd rfl (Or.inl rfl) (pe_op op_cat (pv 1) (pe_lc (own := [("index", 3), ("dependency", 5)]) (g := gTup K 2 (gCons (gName 3) (gCons (gName 5) gNil))) rfl nd (pi_enumT rfl me (pa_cons (pe_fld (pv 0) rfl) pa_nil)) (blkOk_by (N := nRun) (sc := defScope sRun) (by decide +kernel)) (fun _ _ _ _ _ => pg_tup rfl (pgs_cons (pg_name (i := 3) nd rfl (Or.inl rfl)) (pgs_cons (pg_name (i := 5) nd rfl (Or.inl rfl)) pgs_nil)))
          (fun _ _ _ _ _ => pts_one (pt_cmpR (r := rIn K false) op_in_seq (pe_ix (r := rIxT K) ix_tup (pv 5) pe_int (fun _ _ => rfl)) (pv 2) rfl)) (fun _ _ _ _ _ => pv 3))))))
      (pss_cons (ps_set (i := 4) nd rfl (Or.inl rfl) pe_bl)
      (pss_one (ps_while PassesOwn.never (PW.pt (pw_and (pt_val (pv 4)) (pw_and1 (pt_not (pt_val (pe_fld (pv 0) rfl))))))
        (pss_cons (ps_set (i := 4) nd rfl (Or.inl rfl) pe_bl)
        (pss_one (ps_for PassesOwn.never rfl (pi_list (pv 1)) (pg_name (i := 3) nd rfl (Or.inl rfl))
          (pss_one (ps_if (PW.pt (pw_and (pt_not (pt_val (pv 4))) (pw_and (pt_not (pt_val (pe_fld (pv 0) rfl))) (pw_and1 (pt_val (pe_meth (pv 0) T.cl o1.mt G1 hr o1.bd .nil pass0 (pa_cons (pv 3) pa_nil))))))) (pss_one (ps_set (i := 4) nd rfl (Or.inl rfl) pe_bl)) pss_nil))))))))), ?_⟩
    obtain ⟨es, hbk, hpe⟩ := X.sta.bok
    have hel : es.length = A.dl.length := Paired.length hpe
    have hfew := ok.few
    -- order = []
    refine ⟨Nat.zero_le _, fun o0 ho0 => ?_⟩
    refine ⟨by show 1 ≤ sizeLine; decide, fun k0 hk0 => ⟨by show 2 ≤ sizeLine; decide, fun k1 hk1 => ⟨by show 1 ≤ sizeLine; decide, fun k2 hk2 => ⟨by show 3 ≤ sizeLine; decide, fun kt hkt => ?_⟩⟩⟩⟩
    have g0 : Fm Non H (upd H o0 (.lst [])) := .new ho0
    have g1 : Fm Non _ (upd (upd H o0 (.lst [])) k0 (.tup [.str "settles"])) := .new hk0
    have g2 : Fm Non _ (upd (upd (upd H o0 (.lst [])) k0 (.tup [.str "settles"])) k1 (.tup [.str "deals", .str "joins"])) := .new hk1
    have g3 : Fm Non _ (upd (upd (upd (upd H o0 (.lst [])) k0 (.tup [.str "settles"])) k1 (.tup [.str "deals", .str "joins"])) k2 (.tup [.str "within"])) := .new hk2
    have g4 : Fm Non _ (upd (upd (upd (upd (upd H o0 (.lst [])) k0 (.tup [.str "settles"])) k1 (.tup [.str "deals", .str "joins"])) k2 (.tup [.str "within"])) kt (.tup [.ref k0, .ref k1, .ref k2])) := .new hkt
    have hk : ∀ (j : Nat) x, ([V.ref k0, V.ref k1, V.ref k2] : List V)[j]? = some x → ∃ a, x = .ref a ∧ j < 3 ∧ Tu (upd (upd (upd (upd (upd H o0 (.lst [])) k0 (.tup [.str "settles"])) k1 (.tup [.str "deals", .str "joins"])) k2 (.tup [.str "within"])) kt (.tup [.ref k0, .ref k1, .ref k2])) a ((kNames j).map V.str) := by
      intro j x h
      match j, h with
      | 0, h => exact ⟨k0, (Option.some.inj h).symm, by decide, (g2.trans (g3.trans g4)).ob _ _ upd_same id⟩
      | 1, h => exact ⟨k1, (Option.some.inj h).symm, by decide, (g3.trans g4).ob _ _ upd_same id⟩
      | 2, h => exact ⟨k2, (Option.some.inj h).symm, by decide, g4.ob _ _ upd_same id⟩
    have gk := g0.trans (g1.trans (g2.trans (g3.trans g4)))
    have hkto : (upd (upd (upd (upd (upd H o0 (.lst [])) k0 (.tup [.str "settles"])) k1 (.tup [.str "deals", .str "joins"])) k2 (.tup [.str "within"])) kt (.tup [.ref k0, .ref k1, .ref k2])) kt = some (.tup [.ref k0, .ref k1, .ref k2]) := upd_same
    have ho0' : (upd (upd (upd (upd (upd H o0 (.lst [])) k0 (.tup [.str "settles"])) k1 (.tup [.str "deals", .str "joins"])) k2 (.tup [.str "within"])) kt (.tup [.ref k0, .ref k1, .ref k2])) o0 = some (.lst []) := (g1.trans (g2.trans (g3.trans g4))).ob _ _ upd_same id
    obtain ⟨Hk, hHk⟩ : ∃ Hk : Hp, Hk = upd (upd (upd (upd (upd H o0 (.lst [])) k0 (.tup [.str "settles"])) k1 (.tup [.str "deals", .str "joins"])) k2 (.tup [.str "within"])) kt (.tup [.ref k0, .ref k1, .ref k2]) := ⟨_, rfl⟩
    have hkto2 := hkto
    rw [← hHk] at hk gk hkto ho0'
    -- for kinds in ..
    refine ⟨kt, rfl, ⟨_, .of hkto2⟩, for_tup (K := K) (a := kt) (xs := [V.ref k0, V.ref k1, V.ref k2]) (fun j σ Hc => ∃ (ol : Addr) (l : List Nat) (x2 : Option V), σ = [some (.ref p), some (.ref ol), x2, none, none, none] ∧ Fm Non Hk Hc ∧ Hc ol = some (.lst (nV l)) ∧ H ol = none ∧ (∀ i ∈ l, i < A.dl.length) ∧ l.length ≤ j * 100 ∧
      ∀ (i : Nat) d, A.dl[i]? = some d → kindNo d < j → i ∈ l) ?_ ?_ ?_ ?_⟩
    · exact ⟨o0, [], _, rfl, (by rw [hHk]; exact Fm.refl), (by have := ho0'; rw [hHk] at this; exact this), ho0, fun i hi => (by simp at hi), Nat.zero_le _, fun i d _ h => (by omega)⟩
    · rintro j σ Hc _ ⟨_, _, _, _, f, _⟩
      exact .of (f.ob _ _ hkto id)
    · rintro j x σ Hc hx ⟨ol, l, x2, rfl, fc, hol, holH, hlt, hll, hin⟩
      obtain ⟨ka, rfl, hj3, hkn⟩ := hk j x hx
      have fHc := gk.trans fc
      have Xc := X.fm fHc
      refine ⟨_, rfl, _, rfl, p, C, dx, _, _, rfl, Xc.ob, T.cl, T.nBk, lkBk, bk, _, rfl, .of (fHc.tk _ _ hbk), fun D hD => ?_⟩
      refine lc_accG (walk_et (K := K) (xs := es.map V.ref)) (S := Non) (fun i acc H' => acc = nV ((List.range i).filter fun i' => match A.dl[i']? with | some d => decide (kindNo d = j) | none => false)) (by rw [List.length_map]; omega) hD id (fun H' f => .of (f.tk _ _ (fHc.tk _ _ hbk))) (fun i acc H1 H2 e _ => e) rfl ?_ ?_
      · rintro i v acc H2 H3 hi f rfl _ ⟨Tp, x, rfl, hTp, rfl, hxi⟩ Qt Qf kt' kf
        obtain ⟨e, he, rfl⟩ := map_at hxi
        obtain ⟨d, hd, hda⟩ := paired_at hpe he
        have ft : Fm Non H2 (upd H2 Tp (.tup [.int (i : Int), .ref e])) := .new hTp
        have tkk := (fHc.tk.trans f.tk).trans ft.tk
        obtain ⟨xs, hx0, hx1, _⟩ := (hda.tk tkk).head
        refine ⟨Tp, [.int (i : Int), .ref e], rfl, .of upd_same, rfl, _, _, rfl, _, _, rfl, rfl, rfl, ?_⟩
        refine ⟨_, rfl, e, _, _, _, rfl, rfl, .of hx0, atI_nat (j := 0) hx1, _, rfl, ka, _, rfl, .inr (.of ((fc.tk.trans (f.tk.trans ft.tk)) _ _ hkn)), rfl, by simp [flatV], _, rfl, ?_⟩
        rw [filt_take, hd] at kt' kf
        refine ite2 (fun hc => ?_) (fun hc => ?_)
        · have hc : inV (.str d.kind) ((kNames j).map V.str) = true := hc
          rw [inV_strs] at hc
          have hkj := (kind_in d j hj3).mp (of_decide_eq_true hc)
          exact ⟨_, rfl, kt' _ _ ft (by simp [nV, hkj])⟩
        · have hc : ¬ inV (.str d.kind) ((kNames j).map V.str) = true := hc
          rw [inV_strs] at hc
          have hkj : ¬ kindNo d = j := fun z => hc (decide_eq_true ((kind_in d j hj3).mpr z))
          exact kf _ ft (by simp [nV, hkj])
      · rintro acc H2 f hl2 hd2 rfl
        rw [List.length_map] at hl2 hd2
        refine ⟨ol, D, _, _, rfl, rfl, f.ob _ _ hol id, hd2, by rw [nV_len, sizeLine_eq]; have := hl2; omega, fun on hon => ?_⟩
        have fn : Fm Non H2 (upd H2 on (.lst (nV l ++ nV ((List.range es.length).filter fun i' => match A.dl[i']? with | some d => decide (kindNo d = j) | none => false)))) := .new hon
        refine ⟨on, l ++ (List.range es.length).filter fun i' => match A.dl[i']? with | some d => decide (kindNo d = j) | none => false, _, rfl, fc.trans (f.trans fn), by rw [upd_same]; simp [nV], (fHc.trans f).tr _ hon, fun i hi => ?_, ?_, fun i d hd hlt' => ?_⟩
        · rcases List.mem_append.mp hi with hi | hi
          · exact hlt i hi
          · have := List.mem_range.mp (List.mem_filter.mp hi).1
            omega
        · rw [nV_len] at hl2
          rw [List.length_append]
          omega
        · by_cases h : kindNo d < j
          · exact List.mem_append_left _ (hin i d hd h)
          · refine List.mem_append_right _ (List.mem_filter.mpr ⟨List.mem_range.mpr ?_, ?_⟩)
            · rw [hel]; exact (List.getElem?_eq_some_iff.mp hd).1
            · rw [hd]; simp; omega
    · rintro σ Hs ⟨ol, l, x2, rfl, fs, hol, holH, hlt, hll, hin⟩
      have hlt3 : l.length ≤ 300 := hll
      have hall : ∀ (i : Nat) d, A.dl[i]? = some d → i ∈ l := fun i d hd => hin i d hd (by show kindNo d < 3; cases d <;> (simp [kindNo]))
      have fHs := gk.trans fs
      have Xs := X.fm fHs
      have nol : ¬ fp p s ol := X.notIn holH
      -- going = True; while ..
      refine ⟨RunW P w C A sc bk p dx ol Hs s k l x2, ⟨_, s, k, true, none, rfl, rfl, .refl, Xs, fun _ z => .inl z, R, fun z => by cases z⟩, ?_⟩
      rintro m σ H2 ⟨s2, k2, b, x3, rfl, rfl, f2, X2, sub2, R2, hF⟩
      have hk2b := (ok.bd k2 _ R2.steps).1
      refine ⟨_, rfl, _, rfl, ?_⟩
      have fin : (s2.cl = false → ∀ d ∈ A.dl, Sat A.wf (stOf s2.Tb) d) → Q .non H2 := fun hsat =>
        q H2 s2 k2 ((fHs.weak fun _ z => z.elim).trans f2) X2 (fun x hx => (sub2 x hx).elim .inl fun h => .inr (fHs.tr _ h)) R2 hsat
      cases b with
      | false => exact iteF (iteF (fin (hF rfl)))
      | true =>
        refine iteT ⟨_, rfl, p, C, dx, _, _, rfl, X2.ob, T.cl, T.nCl, lkCl, _, rfl, ?_⟩
        cases hc2 : s2.cl with
        | true => exact iteF (fin fun z => by rw [hc2] at z; cases z)
        | false =>
          refine iteT ⟨fun σ' H' => ∃ m', m' < _ ∧ RunW P w C A sc bk p dx ol Hs s k l x2 m' σ' H', fun σ' H' h => h, ?_⟩
          -- going = False; for index in order
          have hol2 : H2 ol = some (.lst (nV l)) := f2.ob _ _ hol nol
          have nol2 : ¬ fp p s2 ol := fun z => (sub2 ol z).elim nol fun h => by rw [hol] at h; cases h
          refine ⟨_, rfl, ol, rfl, ⟨_, .of hol2⟩, for_list (K := K) (a := ol) (xs := nV l) (fun j σ Hc => ∃ (s3 : CS) (k3 : Nat) (b : Bool) (x3 : Option V), σ = [some (.ref p), some (.ref ol), x2, x3, some (.bl b), none] ∧ Fm (fp p s2) H2 Hc ∧ ChAt P w C A sc bk p dx Hc s3 ∧ (∀ x, fp p s3 x → fp p s2 x ∨ H2 x = none) ∧ Run A k3 s3 ∧ k2 ≤ k3 ∧
            (b = false → s3 = s2 ∧ k3 = k2 ∧ ∀ i ∈ l.take j, ∀ d, A.dl[i]? = some d → Sat A.wf (stOf s2.Tb) d) ∧ (b = true → k2 < k3 ∨ s3.cl = true)) ?_ ?_ ?_ ?_⟩
          · exact ⟨s2, k2, false, _, rfl, .refl, X2, fun _ z => .inl z, R2, Nat.le_refl _, fun _ => ⟨rfl, rfl, fun i hi => by simp at hi⟩, fun z => by cases z⟩
          · rintro j σ Hc _ ⟨_, _, _, _, _, f, _⟩
            exact .of (f.ob _ _ hol2 nol2)
          · rintro j y σ Hc hy ⟨s3, k3, b, x3', rfl, fc, X3, sub3, R3, hk3, hbF, hbT⟩
            obtain ⟨i, hi, rfl⟩ := nV_get hy
            refine ⟨_, rfl, _, rfl, ?_⟩
            cases b with
            | true =>
              exact iteF (iteF ⟨s3, k3, true, _, rfl, fc, X3, sub3, R3, hk3, fun z => (by cases z), hbT⟩)
            | false =>
              obtain ⟨rfl, rfl, hdone⟩ := hbF rfl
              refine iteT ⟨_, rfl, p, C, dx, _, _, rfl, X3.ob, T.cl, T.nCl, lkCl, _, rfl, ?_⟩
              rw [hc2]
              obtain ⟨d, hd⟩ : ∃ d, A.dl[i]? = some d := ⟨_, List.getElem?_eq_getElem (hlt i (List.mem_of_getElem? hi))⟩
              refine iteT ⟨_, rfl, p, dx, _, rfl, X3.ob, lkNo (by decide +kernel), _, rfl, sc, bk, p, dx, s3, k3, i, d, rfl, X3, R3, hc2, hd, True.intro, fun H4 f4 hsat => ?_, fun H4 s4 k4 f4 X4 sub4 R4 hor hle => ?_⟩
              · refine ⟨_, rfl, iteF ⟨s3, k3, false, _, rfl, fc.trans (f4.weak fun _ z => z.elim), X3.fm f4, sub3, R3, Nat.le_refl _, fun _ => ⟨rfl, rfl, fun i' hi' d' hd' => ?_⟩, fun z => by cases z⟩⟩
                rcases (mem_take_succ hi).mp hi' with hi' | rfl
                · exact hdone i' hi' d' hd'
                · rw [hd] at hd'
                  rw [← Option.some.inj hd']
                  exact hsat
              · refine ⟨_, rfl, iteT ⟨s4, k4, true, _, rfl, fc.step f4 sub3, X4, fun x hx => (sub4 x hx).elim (sub3 x) fun h => .inr (fc.tr _ h), R4, hle, fun z => (by cases z), fun _ => hor⟩⟩
          · rintro σ Hc ⟨s3, k3, b, x3', rfl, fc, X3, sub3, R3, hk3, hbF, hbT⟩
            rw [nV_len, List.take_length] at hbF
            have f23 := f2.step fc sub2
            have sub23 : ∀ x, fp p s3 x → fp p s x ∨ Hs x = none := fun x hx => (sub3 x hx).elim (sub2 x) fun h => .inr (f2.tr _ h)
            have hk3b := (ok.bd k3 _ R3.steps).1
            refine ⟨_, ?_, s3, k3, b, _, rfl, rfl, f23, X3, sub23, R3, fun hb hc => ?_⟩
            · cases b with
              | true =>
                rcases hbT rfl with h | h
                · split <;> simp <;> omega
                · rw [h]; simp; omega
              | false =>
                obtain ⟨rfl, rfl, _⟩ := hbF rfl
                rw [hc2]; simp
            · obtain ⟨rfl, rfl, hsat⟩ := hbF hb
              intro d hd
              obtain ⟨i, hi⟩ := List.getElem?_of_mem hd
              exact hsat i (hall i d hi) d hi
end
end Nor
end
section
/-! __init__. -/
namespace Nor
open PySem L2 L2.NW
theorem putF_end (ns : List Str) (vs : List V) (m : Str) (y : V) (h : m ∉ ns) (hl : ns.length = vs.length) : putF m y (ns.zip vs) = (ns ++ [m]).zip (vs ++ [y]) := by
  rw [putF_new]
  · rw [List.zip_append hl]; rfl
  · intro hm
    rw [List.map_fst_zip (by omega)] at hm
    exact h hm
/-- a table, a store as data -/
def TabT (H : Hp) (e : Addr) (rs : List Row) : Prop := ∃ qs : List (Addr × Row), Tu H e (qs.map fun z => V.ref z.1) ∧ (∀ z ∈ qs, RowT H z.1 z.2) ∧ qs.map (·.2) = rs
def StoreAt (H : Hp) (a : Addr) (L : List (List Row)) : Prop := ∃ es : List Addr, Tu H a (es.map V.ref) ∧ Paired (TabT H) es L
theorem TabT.tk {H H' : Hp} {e : Addr} {rs : List Row} (x : TabT H e rs) (t : TK H H') : TabT H' e rs := let ⟨qs, h1, h2, h3⟩ := x; ⟨qs, t _ _ h1, fun z hz => t _ _ (h2 z hz), h3⟩
theorem StoreAt.tk {H H' : Hp} {a : Addr} {L : List (List Row)} (x : StoreAt H a L) (t : TK H H') : StoreAt H' a L := let ⟨es, h, p⟩ := x; ⟨es, t _ _ h, paired_map p fun _ _ z => z.tk t⟩
section
variable {P : Program} {w : World} {K : PySem.W.Frag} {mg : Str → Option Value} {base : Heap} {C : Addr} {A : PB} {sc bk p dx : Addr} {H H' : Hp} {s s' : CS} {k : Nat}
abbrev nInit : List Str := ["self", "scheme", "book", "store", "rows", "row", "value"]
theorem scInit : FnScope nInit ["self", "scheme", "book", "store"] (defScope sInit) := ⟨rfl, rfl, rfl, by decide +kernel, rfl, by decide +kernel, by decide +kernel⟩
/-- a store of the problem -/
structure L0 (A : PB) (L : List (List Row)) : Prop where
  st : stOf L = A.T0
  len : L.length = A.n
  few : ∀ rs ∈ L, rs.length ≤ 64
def spInit (P : Program) (w : World) (C : Addr) (A : PB) : Sp := fun vs H Q _ => ∃ (sc bk st p dx : Addr) (L : List (List Row)), vs = [.ref p, .ref sc, .ref bk, .ref st] ∧ H p = some (.ins C dx []) ∧ Sta A H sc bk ∧ StoreAt H st L ∧ L0 A L ∧
  ∀ (H' : Hp) (s : CS), Fm (fun x => x = p) H H' → ChAt P w C A sc bk p dx H' s → Run A 0 s → s.cl = false → (∀ x, fp p s x → x = p ∨ H x = none) → Q .non H'
theorem ok_init {f : Addr} {fd : FuncData} (ok : A.Ok) (T : Txt K mg C) (F : Fun K "__init__" "Chase.__init__" sInit f fd) : FnOk P w K mg base CX0 1 f fd ["self", "scheme", "book", "store"] (spInit P w C A) := by
  refine F.ok scInit (fun vs H Q E h => ?_) (fun cdv Ar outer sh H vs Q E hr h => ?_)
  · obtain ⟨sc, bk, st, p, dx, L, rfl, _⟩ := h
    rfl
  · obtain ⟨sc, bk, st, p, dx, L, rfl, hp, hsta, hst, hL, q⟩ := h
    have nd := scInit.nd
    have hu := hu_of hr
    have hu0 := Nat.lt_of_succ_lt hu
    refine ⟨_, pss_cons (ps_fld (pv 0) (pv 1) rfl) (pss_cons (ps_fld (pv 0) (pv 2) rfl)
      (pss_cons (ps_fld (pv 0) (pe_lc (own := [("rows", 4)]) (g := gName 4) (tt := tYes) (te := tDcs (fun D => rawD D #[] 0) (iTup K (tVar 4)) (gName 5) tYes (tNKey P w (tVar 5) (tC (.bl true))) [5] [5]) rfl nd (pi_tup (pv 3)) (blkOk_by (N := nInit) (sc := defScope sInit) (by decide +kernel)) (fun _ _ _ _ _ => pg_name (i := 4) nd rfl (Or.inl rfl)) (fun _ _ _ _ _ => pts_nil)
        (fun _ _ _ _ _ => pe_dcs (own := [("row", 5)]) (vs := [5]) (g := gName 5) (tt := tYes) (wi := iTup K (tVar 4)) (tb := tNKey P w (tVar 5) (tC (.bl true))) (fun D => rawD D #[] 0) rfl nd (fun H h hb => ho_N hb) (by intro g hg; simp at hg; rw [hg]) (pi_tup (pv 4)) (blkOk_by (N := nInit) (sc := sclL [(".0", .local), ("rows", .local)]) (by decide +kernel)) (fun _ _ _ _ _ => pg_name (i := 5) nd rfl (Or.inl rfl)) (fun _ _ _ _ _ => pts_nil)
          (fun _ _ _ _ _ => em_nkey rfl hu0 rfl (pv 5) pe_bl))) rfl)
      (pss_cons (ps_fld (pv 0) (pe_dcs (own := [("rows", 4), ("row", 5), ("value", 6)]) (vs := [4, 5, 6]) (g := gName 4) (tt := tYes) (wi := iTup K (tVar 3)) (tb := tLoop (iTup K (tVar 4)) (gName 5) tYes (tLoop (iTup K (tVar 5)) (gName 6) tYes (tKey (tVar 6) (tC (.bl true))) [6]) [5, 6]) (fun D => .dK []) rfl nd (fun H h hb => ho_K hb) (by intro g hg; simp at hg; rcases hg with rfl | rfl | rfl <;> rfl) (pi_tup (pv 3)) (blkOk_by (N := nInit) (sc := defScope sInit) (by decide +kernel)) (fun _ _ _ _ _ => pg_name (i := 4) nd rfl (Or.inl rfl)) (fun _ _ _ _ _ => pts_nil)
        (fun _ _ _ _ _ => em_loop rfl rfl rfl (by intro g hg; simp at hg; rcases hg with rfl | rfl | rfl <;> rfl) (pi_tup (pv 4)) (pg_name (i := 5) nd rfl (Or.inl rfl)) pts_nil (em_loop rfl rfl rfl (by intro g hg; simp at hg; rcases hg with rfl | rfl | rfl <;> rfl) (pi_tup (pv 5)) (pg_name (i := 6) nd rfl (Or.inl rfl)) pts_nil (em_key rfl rfl (pv 6) pe_bl)))) rfl)
      (pss_cons (ps_fld (pv 0) pe_dnewK rfl) (pss_cons (ps_fld (pv 0) (pe_lst pa_nil) rfl) (pss_one (ps_fld (pv 0) pe_bl rfl))))))), ?_⟩
    obtain ⟨es, hes, hpe⟩ := hst
    have hel : es.length = L.length := Paired.length hpe
    have hn3 := ok.n3
    have hLn := hL.len
    have wid : ∀ (t : Nat) (rs : List Row), L[t]? = some rs → ∀ r ∈ rs, r.length ≤ 4 := fun t rs h r hr => by
      have h1 : A.T0 t r := by rw [← hL.st]; exact ⟨rs, h, hr⟩
      have := ok.wf0 t r h1
      have := (ok.wid t this.1).2
      omega
    -- self.scheme, self.book
    refine ⟨_, rfl, _, rfl, p, C, dx, _, rfl, hp, T.cl, T.nSc, (by show 0 < 1000; decide), ?_⟩
    rw [show putF ("scheme" : Str) (V.ref sc) [] = (["scheme"] : List Str).zip [V.ref sc] from rfl]
    refine ⟨_, rfl, _, rfl, p, C, dx, _, rfl, upd_same, T.cl, T.nBk, (by show 1 < 1000; decide), ?_⟩
    rw [putF_end ["scheme"] [V.ref sc] "book" (V.ref bk) (by decide +kernel) rfl]
    rw [upd_upd]
    have f1 : Fm (fun x => x = p) H (upd H p (.ins C dx (([("scheme" : Str)] ++ [("book" : Str)]).zip ([V.ref sc] ++ [V.ref bk])))) := .mut hp (fun _ z => nomatch z) rfl
    have p1 : upd H p (.ins C dx (([("scheme" : Str)] ++ [("book" : Str)]).zip ([V.ref sc] ++ [V.ref bk]))) p = _ := upd_same
    generalize hH1 : upd H p (.ins C dx (([("scheme" : Str)] ++ [("book" : Str)]).zip ([V.ref sc] ++ [V.ref bk]))) = H1 at f1 p1 ⊢
    -- self.tables
    refine ⟨_, rfl, st, rfl, ⟨_, .of (f1.tk _ _ hes)⟩, fun tl htl => ?_⟩
    refine lc_accG (walk_tup (K := K) (xs := es.map V.ref)) (S := Non) (fun i acc H' => ∃ (ds : List Addr) (Tb : List (List Row)), acc = ds.map V.ref ∧ Paired (RowsD P w H') ds Tb ∧ ds.Nodup ∧ (∀ d ∈ ds, H1 d = none ∧ d ≠ tl) ∧ Paired (fun rs rs' : List Row => ∀ r, r ∈ rs' ↔ r ∈ rs) (L.take i) Tb) (by rw [List.length_map]; omega) htl id (fun H' f => .of (f.tk _ _ (f1.tk _ _ hes))) ?_ ?_ ?_ ?_
    · rintro i acc H2 H3 ⟨ds, Tb, h1, h2, h3, h4, h5⟩ f
      exact ⟨ds, Tb, h1, rows_fm h2 f fun d hd z => (h4 d hd).2 z, h3, h4, h5⟩
    · exact ⟨[], [], rfl, .nil, List.nodup_nil, fun d hd => by simp at hd, by rw [List.take_zero]; exact .nil⟩
    · rintro i x acc H2 H3 hi f ⟨ds, Tb, rfl, h2, h3, h4, h5⟩ hD ⟨rfl, hx⟩ Qt Qf kt kf
      obtain ⟨e, he, rfl⟩ := map_at hx
      obtain ⟨rs, hrs, qs, hq1, hq2, hq3⟩ := paired_at hpe he
      have hql : qs.length = rs.length := by have := congrArg List.length hq3; simpa using this
      have hr64 := hL.few rs (List.mem_of_getElem? hrs)
      have f13 := f1.tk.trans f.tk
      refine ⟨rfl, _, rfl, e, rfl, ⟨_, .of (f13 _ _ hq1)⟩, fun nd0 hnd0 hsys => ?_⟩
      refine rowdict (walk_tupR (K := K) (b := e) (qs := qs)) (fun H' f' => .of (f'.tk _ _ (f13 _ _ hq1))) (fun z hz => f13 _ _ (hq2 z hz)) ?_ ?_ hnd0 hsys (by omega) fun H4 rn f4 dn mn ln => ?_
      · rfl
      · show 5 < 7; decide
      refine kt _ _ f4 ⟨ds ++ [nd0], Tb ++ [rn], by simp, Paired.snoc (rows_fm h2 f4 fun _ _ => id) dn, ?_, fun d hd => ?_, ?_⟩
      · rw [List.nodup_append]
        refine ⟨h3, by simp, fun x hx y hy e => ?_⟩
        rw [List.mem_singleton.mp hy] at e
        subst e
        obtain ⟨i', hi'⟩ := List.getElem?_of_mem hx
        obtain ⟨_, _, z⟩ := paired_at h2 hi'
        obtain ⟨_, _, z⟩ := z.ob
        exact ne_of_none z hnd0 rfl
      · rcases List.mem_append.mp hd with hd | hd
        · exact h4 d hd
        · rw [List.mem_singleton.mp hd]
          exact ⟨f.tr _ hnd0, (ne_of_none hD hnd0).symm⟩
      · rw [List.take_add_one, hrs]
        refine Paired.snoc h5 fun r => ?_
        rw [mn r, hq3]
    · rintro acc H2 f2 hl2 hD ⟨ds, Tb, rfl, h2, h3, h4, h5⟩
      rw [List.length_map, hel, List.take_length] at h5
      have est : stOf Tb = A.T0 := by
        rw [← hL.st]
        funext t r
        apply propext
        constructor
        · rintro ⟨rs', g1, g2⟩
          obtain ⟨rs, g3, g4⟩ := paired_at2 h5 g1
          exact ⟨rs, g3, (g4 r).mp g2⟩
        · rintro ⟨rs, g3, g5⟩
          obtain ⟨rs', g1, g4⟩ := paired_at h5 g3
          exact ⟨rs', g1, (g4 r).mpr g5⟩
      have p2 := f2.ob _ _ p1 id
      refine ⟨_, rfl, p, C, dx, _, rfl, p2, T.cl, T.nTb, (by show 2 < 1000; decide), ?_⟩
      rw [putF_end _ _ "tables" (V.ref tl) (by decide +kernel) rfl]
      have f3 : Fm (fun x => x = p) H2 (upd H2 p (.ins C dx (([("scheme" : Str)] ++ [("book" : Str)] ++ [("tables" : Str)]).zip ([V.ref sc] ++ [V.ref bk] ++ [V.ref tl])))) := .mut p2 (fun _ z => nomatch z) rfl
      have p3 : upd H2 p (.ins C dx (([("scheme" : Str)] ++ [("book" : Str)] ++ [("tables" : Str)]).zip ([V.ref sc] ++ [V.ref bk] ++ [V.ref tl]))) p = _ := upd_same
      have ntl : tl ≠ p := ne_of hD p2 (by intro z; cases z)
      have hD3 := f3.ob _ _ hD ntl
      have nds : ∀ d ∈ ds, d ≠ p := fun d hd e => by
        have := (h4 d hd).1
        rw [e, p1] at this
        cases this
      have h23 := rows_fm h2 f3 nds
      generalize hH3 : upd H2 p (.ins C dx (([("scheme" : Str)] ++ [("book" : Str)] ++ [("tables" : Str)]).zip ([V.ref sc] ++ [V.ref bk] ++ [V.ref tl]))) = H3 at f3 p3 hD3 h23 ⊢
      have t3 := (f1.tk.trans f2.tk).trans f3.tk
      -- self.seen
      refine ⟨_, rfl, st, rfl, ⟨_, .of (t3 _ _ hes)⟩, fun sd hsd hsys => ?_⟩
      refine dc_it (walk_tup (K := K) (xs := es.map V.ref)) (fun i H' => ∃ kv : List (Key × V), Fm Non H3 H' ∧ H' sd = some (.dK kv) ∧ kv.length ≤ i * 1000 ∧ ∀ (t : Nat) (rs : List Row), t < i → L[t]? = some rs → ∀ r ∈ rs, ∀ v ∈ r, (Sum.inl v : Key) ∈ kv.map (·.1)) rfl ⟨[], .new hsd, upd_same, Nat.zero_le _, fun t rs h => by omega⟩ (fun i H' _ ⟨_, f, _⟩ => .of (f.tk _ _ (t3 _ _ hes))) ?_ ?_
      · rintro i x H4 H5 hi ⟨kv, f, hsd4, hkv, hin⟩ ⟨rfl, hx⟩
        obtain ⟨e, he, rfl⟩ := map_at hx
        obtain ⟨rs, hrs, qs, hq1, hq2, hq3⟩ := paired_at hpe he
        have hql : qs.length = rs.length := by have := congrArg List.length hq3; simpa using this
        have hr64 := hL.few rs (List.mem_of_getElem? hrs)
        rw [List.length_map] at hi
        refine ⟨rfl, _, rfl, e, rfl, ⟨_, .of (f.tk _ _ (t3 _ _ hq1))⟩, ?_⟩
        refine dc_it (walk_tupR (K := K) (b := e) (qs := qs)) (fun j H' => ∃ kv : List (Key × V), Fm Non H3 H' ∧ H' sd = some (.dK kv) ∧ kv.length ≤ i * 1000 + j * 4 ∧ (∀ (t : Nat) (rs : List Row), t < i → L[t]? = some rs → ∀ r ∈ rs, ∀ v ∈ r, (Sum.inl v : Key) ∈ kv.map (·.1)) ∧ ∀ z ∈ qs.take j, ∀ v ∈ z.2, (Sum.inl v : Key) ∈ kv.map (·.1)) rfl ⟨kv, f, hsd4, by omega, hin, fun z hz => by simp at hz⟩ (fun j H' _ ⟨_, f, _⟩ => .of (f.tk _ _ (t3 _ _ hq1))) ?_ ?_
        · rintro j y H6 H7 hj ⟨kv, f, hsd4, hkv, hin, hin2⟩ ⟨rfl, u, hu', rfl⟩
          have huq := List.mem_of_getElem? hu'
          have hu2 : u.2 ∈ rs := by rw [← hq3]; exact List.mem_map.mpr ⟨u, huq, rfl⟩
          have hw := wid i rs hrs u.2 hu2
          refine ⟨rfl, _, rfl, u.1, rfl, ⟨_, .of (f.tk _ _ (t3 _ _ (hq2 u huq)))⟩, ?_⟩
          refine dc_it (walk_tup (K := K) (xs := u.2.map V.int)) (fun c H' => ∃ kv : List (Key × V), Fm Non H3 H' ∧ H' sd = some (.dK kv) ∧ kv.length ≤ i * 1000 + j * 4 + c ∧ (∀ (t : Nat) (rs : List Row), t < i → L[t]? = some rs → ∀ r ∈ rs, ∀ v ∈ r, (Sum.inl v : Key) ∈ kv.map (·.1)) ∧ (∀ z ∈ qs.take j, ∀ v ∈ z.2, (Sum.inl v : Key) ∈ kv.map (·.1)) ∧ ∀ v ∈ u.2.take c, (Sum.inl v : Key) ∈ kv.map (·.1)) rfl ⟨kv, f, hsd4, by omega, hin, hin2, fun v hv => by simp at hv⟩ (fun c H' _ ⟨_, f, _⟩ => .of (f.tk _ _ (t3 _ _ (hq2 u huq)))) ?_ ?_
          · rintro c z H8 H9 hc ⟨kv, f, hsd4, hkv, hin, hin2, hin3⟩ ⟨rfl, hz⟩
            obtain ⟨v, hv, rfl⟩ := map_at hz
            rw [List.length_map] at hc
            refine ⟨rfl, _, rfl, kv, Sum.inl v, rfl, hsd4, by rw [sizeLine_eq]; omega, ?_⟩
            have sup : ∀ y, y ∈ kv.map (·.1) → y ∈ (putK kv (Sum.inl v) (V.bl true)).map (·.1) := fun y hy => mem_putK.mpr (.inl hy)
            refine ⟨_, f.sub (.mut hsd4 (fun _ z => nomatch z) rfl) hsd, upd_same, by have := length_putK kv (Sum.inl v : Key) (V.bl true); omega, fun t rs' ht h r hr v' hv' => sup _ (hin t rs' ht h r hr v' hv'), fun z' hz' v' hv' => sup _ (hin2 z' hz' v' hv'), fun v' hv' => ?_⟩
            rcases (mem_take_succ hv).mp hv' with h | rfl
            · exact sup _ (hin3 v' h)
            · exact mem_putK.mpr (.inr rfl)
          · rintro H8 ⟨kv, f, hsd4, hkv, hin, hin2, hin3⟩
            rw [List.length_map] at hkv hin3
            rw [List.take_length] at hin3
            refine ⟨kv, f, hsd4, by omega, hin, fun z hz v hv => ?_⟩
            rcases (mem_take_succ hu').mp hz with h | rfl
            · exact hin2 z h v hv
            · exact hin3 v hv
        · rintro H6 ⟨kv, f, hsd4, hkv, hin, hin2⟩
          rw [List.take_length] at hin2
          refine ⟨kv, f, hsd4, by omega, fun t rs' ht h r hr v hv => ?_⟩
          rcases Nat.lt_succ_iff_lt_or_eq.mp ht with ht | rfl
          · exact hin t rs' ht h r hr v hv
          · rw [hrs] at h
            have := Option.some.inj h
            subst this
            rw [← hq3] at hr
            obtain ⟨z, hz, rfl⟩ := List.mem_map.mp hr
            exact hin2 z hz v hv
      · rintro H4 ⟨kv, f4, hsd4, hkv, hin⟩
        rw [List.length_map] at hkv hin
        have p4 := f4.ob _ _ p3 id
        refine ⟨_, rfl, p, C, dx, _, rfl, p4, T.cl, T.nSn, (by show 3 < 1000; decide), ?_⟩
        rw [putF_end _ _ "seen" (V.ref sd) (by decide +kernel) rfl]
        have f5 : Fm (fun x => x = p) H4 (upd H4 p (.ins C dx (([("scheme" : Str)] ++ [("book" : Str)] ++ [("tables" : Str)] ++ [("seen" : Str)]).zip ([V.ref sc] ++ [V.ref bk] ++ [V.ref tl] ++ [V.ref sd])))) := .mut p4 (fun _ z => nomatch z) rfl
        have p5 : upd H4 p (.ins C dx (([("scheme" : Str)] ++ [("book" : Str)] ++ [("tables" : Str)] ++ [("seen" : Str)]).zip ([V.ref sc] ++ [V.ref bk] ++ [V.ref tl] ++ [V.ref sd]))) p = _ := upd_same
        have nsd : sd ≠ p := ne_of hsd4 p4 (by intro z; cases z)
        have sd5 := f5.ob _ _ hsd4 nsd
        have tl5 := f5.ob _ _ (f4.ob _ _ hD3 id) ntl
        have r5 := rows_fm (rows_fm h23 f4 fun _ _ => id) f5 nds
        generalize hH5 : upd H4 p (.ins C dx (([("scheme" : Str)] ++ [("book" : Str)] ++ [("tables" : Str)] ++ [("seen" : Str)]).zip ([V.ref sc] ++ [V.ref bk] ++ [V.ref tl] ++ [V.ref sd]))) = H5 at f5 p5 sd5 tl5 r5 ⊢
        -- self.became
        intro bd hbd
        have f6 : Fm Non H5 (upd H5 bd (.dK [])) := .new hbd
        have p6 := f6.ob _ _ p5 id
        refine ⟨_, rfl, p, C, dx, _, rfl, p6, T.cl, T.nBc, (by show 4 < 1000; decide), ?_⟩
        rw [putF_end _ _ "became" (V.ref bd) (by decide +kernel) rfl]
        have nbd : bd ≠ p := (ne_of_none p5 hbd).symm
        have nsb : sd ≠ bd := ne_of_none sd5 hbd
        have f7 : Fm (fun x => x = p) (upd H5 bd (.dK [])) (upd (upd H5 bd (.dK [])) p (.ins C dx (([("scheme" : Str)] ++ [("book" : Str)] ++ [("tables" : Str)] ++ [("seen" : Str)] ++ [("became" : Str)]).zip ([V.ref sc] ++ [V.ref bk] ++ [V.ref tl] ++ [V.ref sd] ++ [V.ref bd])))) := .mut p6 (fun _ z => nomatch z) rfl
        have p7 : upd (upd H5 bd (.dK [])) p (.ins C dx (([("scheme" : Str)] ++ [("book" : Str)] ++ [("tables" : Str)] ++ [("seen" : Str)] ++ [("became" : Str)]).zip ([V.ref sc] ++ [V.ref bk] ++ [V.ref tl] ++ [V.ref sd] ++ [V.ref bd]))) p = _ := upd_same
        have bd7 := f7.ob _ _ (upd_same (H := H5) (a := bd) (o := .dK [])) nbd
        have sd7 := f7.ob _ _ (f6.ob _ _ sd5 id) nsd
        have tl7 := f7.ob _ _ (f6.ob _ _ tl5 id) ntl
        have r7 := rows_fm (rows_fm r5 f6 fun _ _ => id) f7 nds
        generalize hH7 : upd (upd H5 bd (.dK [])) p (.ins C dx (([("scheme" : Str)] ++ [("book" : Str)] ++ [("tables" : Str)] ++ [("seen" : Str)] ++ [("became" : Str)]).zip ([V.ref sc] ++ [V.ref bk] ++ [V.ref tl] ++ [V.ref sd] ++ [V.ref bd]))) = H7 at f7 p7 bd7 sd7 tl7 r7 ⊢
        -- self.steps
        refine ⟨Nat.zero_le _, fun sl hsl => ?_⟩
        have f8 : Fm Non H7 (upd H7 sl (.lst [])) := .new hsl
        have p8 := f8.ob _ _ p7 id
        refine ⟨_, rfl, p, C, dx, _, rfl, p8, T.cl, T.nSt, (by show 5 < 1000; decide), ?_⟩
        rw [putF_end _ _ "steps" (V.ref sl) (by decide +kernel) rfl]
        have nsl : sl ≠ p := (ne_of_none p7 hsl).symm
        have ntsl : tl ≠ sl := ne_of_none tl7 hsl
        -- self.clashed
        refine ⟨_, rfl, p, C, dx, _, rfl, upd_same, T.cl, T.nCl, (by show 6 < 1000; decide), ?_⟩
        rw [putF_end _ _ "clashed" (V.bl false) (by decide +kernel) rfl, upd_upd]
        have f9 : Fm (fun x => x = p) (upd H7 sl (.lst [])) (upd (upd H7 sl (.lst [])) p (.ins C dx (flds sc bk tl sd bd sl false))) := .mut p8 (fun _ z => nomatch z) rfl
        have wk : ∀ {H H'}, Fm Non H H' → Fm (fun x => x = p) H H' := fun f => f.weak fun _ z => z.elim
        have fall : Fm (fun x => x = p) H (upd (upd H7 sl (.lst [])) p (.ins C dx (flds sc bk tl sd bd sl false))) :=
          (f1.trans (wk f2)).trans (f3.trans ((wk f4).trans (f5.trans ((wk f6).trans (f7.trans ((wk f8).trans f9))))))
        have fb2 : Fm (fun x => x = p) H H2 := f1.trans (wk f2)
        have fb3 : Fm (fun x => x = p) H H3 := fb2.trans f3
        have fb5 : Fm (fun x => x = p) H H5 := fb3.trans ((wk f4).trans f5)
        have fb7 : Fm (fun x => x = p) H H7 := fb5.trans ((wk f6).trans f7)
        refine q _ ⟨tl, sd, bd, sl, ds, Tb, kv, [], [], false⟩ fall ?_ ?_ rfl fun x hx => ?_
        · exact {
            ob := upd_same
            tb := f9.ob _ _ (f8.ob _ _ tl7 id) ntl
            rows := rows_fm (rows_fm r7 f8 fun _ _ => id) f9 nds
            sn := f9.ob _ _ (f8.ob _ _ sd7 id) nsd
            bc := f9.ob _ _ (f8.ob _ _ bd7 id) nbd
            st := f9.ob _ _ upd_same nsl
            sta := hsta.tk fall.tk
            tlen := by show Tb.length = _; rw [← Paired.length h5]; exact hLn
            nd := h3
            dif := nsb
            dif2 := ntsl
            inseen := fun t r v h hv => by
              rw [show stOf Tb = _ from est, ← hL.st] at h
              obtain ⟨rs, g1, g2⟩ := h
              exact hin t rs (by rw [hel]; exact (List.getElem?_eq_some_iff.mp g1).1) g1 r g2 v hv
            wid := by rw [show stOf Tb = _ from est]; exact ok.wf0 }
        · exact ⟨by rw [show stOf Tb = _ from est]; exact .zero _, Nat.zero_le _, by show kv.length ≤ _; omega, Nat.zero_le _, fun z => (by cases z), fun _ => Nat.zero_le _⟩
        · rcases hx with hx | hx | hx | hx | hx | hx
          · exact .inl hx
          · right; rw [show x = tl from hx]; exact f1.tr _ htl
          · right; rw [show x = sd from hx]; exact fb3.tr _ hsd
          · right; rw [show x = bd from hx]; exact fb5.tr _ hbd
          · right; rw [show x = sl from hx]; exact fb7.tr _ hsl
          · right; exact f1.tr _ (h4 x hx).1
end
end Nor
end
section
/-! store, chased, chase, sure_rows. -/
namespace Nor
open PySem L2 L2.NW
section
variable {P : Program} {w : World} {K : PySem.W.Frag} {mg : Str → Option Value} {base : Heap} {C : Addr} {A : PB} {sc bk p dx : Addr} {H H' : Hp} {s s' : CS} {k : Nat}
abbrev nStore : List Str := ["self", "rows"]
theorem scStore : FnScope nStore ["self"] (defScope sStore) := ⟨rfl, rfl, rfl, by decide +kernel, rfl, by decide +kernel, by decide +kernel⟩
def spStore (P : Program) (w : World) (C : Addr) (A : PB) : Sp := fun vs H Q _ => ∃ (sc bk p dx : Addr) (s : CS) (k : Nat), vs = [.ref p] ∧ ChAt P w C A sc bk p dx H s ∧ Run A k s ∧
  ∀ (a : Addr) (H' : Hp) (L : List (List Row)), Fm Non H H' → StoreAt H' a L → L.length = A.n → stOf L = stOf s.Tb → (∀ rs ∈ L, rs.length ≤ 64) → Q (.ref a) H'
theorem ok_store {f : Addr} {fd : FuncData} (ok : A.Ok) (T : Txt K mg C) (F : Fun K "store" "Chase.store" sStore f fd) (mt : mg "tuple" = none) (ms : mg "sorted" = none) : FnOk P w K mg base CX0 1 f fd ["self"] (spStore P w C A) := by
  refine F.ok scStore (fun vs H Q E h => ?_) (fun cdv Ar outer sh H vs Q E hr h => ?_)
  · obtain ⟨sc, bk, p, dx, s, k, rfl, _⟩ := h
    rfl
  · obtain ⟨sc, bk, p, dx, s, k, rfl, X, R, q⟩ := h
    have nd := scStore.nd
    refine ⟨_, pss_one (ps_ret (pe_callTy cr_tup rfl mt (by rfl) (pa_cons (pe_lc (own := [("rows", 1)]) (g := gName 1) (tt := tYes) rfl nd (pi_list (pe_fld (pv 0) rfl)) (blkOk_by (N := nStore) (sc := defScope sStore) (by decide +kernel)) (fun _ _ _ _ _ => pg_name (i := 1) nd rfl (Or.inl rfl)) (fun _ _ _ _ _ => pts_nil)
      (fun _ _ _ _ _ => pe_callTy (r := rTup K) cr_tup rfl mt (by rfl) (pa_cons (pe_callB (r := rSortN P w) (cr_sortN rfl hr.units) rfl ms PyProof.Rows.boot_sorted (pa_cons (pv 1) pa_nil)) pa_nil))) pa_nil))), ?_⟩
    have hn3 := ok.n3
    have hpl := Paired.length X.rows
    have htl := X.tlen
    have hsm := tables_small ok X R
    refine ⟨_, rfl, p, C, dx, _, _, rfl, X.ob, T.cl, T.nTb, lkTb, s.tl, rfl, ⟨_, .of X.tb⟩, fun D hD => ?_⟩
    refine lc_accG (walk_list (K := K) (xs := s.ds.map V.ref)) (S := Non) (fun i acc H' => ∃ (es : List Addr) (L : List (List Row)), acc = es.map V.ref ∧ Paired (TabT H') es L ∧ Paired (fun rs rs' : List Row => rs'.length ≤ 64 ∧ ∀ r, r ∈ rs' ↔ r ∈ rs) (s.Tb.take i) L) (by rw [List.length_map]; omega) hD id (fun H' f => .of (f.ob _ _ X.tb id)) ?_ ?_ ?_ ?_
    · rintro i acc H2 H3 ⟨es, L, h1, h2, h3⟩ f
      exact ⟨es, L, h1, paired_map h2 fun _ _ z => z.tk f.tk, h3⟩
    · exact ⟨[], [], rfl, .nil, by rw [List.take_zero]; exact .nil⟩
    · rintro i x acc H2 H3 hi f ⟨es, L, rfl, h2, h3⟩ _ ⟨rfl, hx⟩ Qt Qf kt kf
      obtain ⟨d, hd, rfl⟩ := map_at hx
      obtain ⟨rs, hrs, hrd⟩ := paired_at X.rows hd
      obtain ⟨kvs, hN, hK⟩ := hrd.fm f id
      have ht : i < A.n := by rw [← htl]; exact (List.getElem?_eq_some_iff.mp hrs).1
      have wt := ok.wid i ht
      refine ⟨rfl, _, rfl, d, kvs, rs, rfl, hN, hK, fun r hr => ?_, fun qs lp hqs hrow hlp => ?_⟩
      · have := (X.wid i r ⟨rs, hrs, hr⟩).2
        intro z; rw [z] at this; simp at this; omega
      · have hql : qs.length = rs.length := by have := hqs.length_eq; simpa using this
        have hr64 := hsm rs (List.mem_of_getElem? hrs)
        have fl : Fm Non H3 (upd H3 lp (.lst (qs.map fun z => V.ref z.1))) := .new hlp
        refine ⟨lp, _, rfl, .inl ⟨.of upd_same, fun tp htp => ?_⟩⟩
        have ft : Fm Non _ (upd (upd H3 lp (.lst (qs.map fun z => V.ref z.1))) tp (.tup (qs.map fun z => V.ref z.1))) := .new htp
        have flt := fl.trans ft
        refine kt _ _ flt ⟨es ++ [tp], L ++ [qs.map (·.2)], by simp, Paired.snoc (paired_map h2 fun _ _ z => z.tk flt.tk) ⟨qs, upd_same, fun z hz => flt.tk _ _ (hrow z hz), rfl⟩, ?_⟩
        rw [List.take_add_one, hrs]
        exact Paired.snoc h3 ⟨by rw [List.length_map]; omega, fun r => hqs.mem_iff⟩
    · rintro acc H2 f hl hd ⟨es, L, rfl, h2, h3⟩
      rw [List.length_map, hpl, List.take_length] at h3
      refine ⟨D, _, rfl, .inl ⟨.of hd, fun a ha => ?_⟩⟩
      have fa : Fm Non H2 (upd H2 a (.tup (es.map V.ref))) := .new ha
      refine q a _ L (f.trans fa) ⟨es, upd_same, paired_map h2 fun _ _ z => z.tk fa.tk⟩ (by rw [← Paired.length h3]; exact htl) ?_ fun rs hrs => ?_
      · funext t r
        apply propext
        constructor
        · rintro ⟨rs', g1, g2⟩
          obtain ⟨rs, g3, g4⟩ := paired_at2 h3 g1
          exact ⟨rs, g3, (g4.2 r).mp g2⟩
        · rintro ⟨rs, g3, g5⟩
          obtain ⟨rs', g1, g4⟩ := paired_at h3 g3
          exact ⟨rs', g1, (g4.2 r).mpr g5⟩
      · obtain ⟨t, ht⟩ := List.getElem?_of_mem hrs
        obtain ⟨_, _, g4⟩ := paired_at2 h3 ht
        exact g4.1
/-! ### chased, chase -/
abbrev nChased : List Str := ["scheme", "book", "store", "found"]
theorem scChased : FnScope nChased ["scheme", "book", "store"] (defScope sChased) := ⟨rfl, rfl, rfl, by decide +kernel, rfl, by decide +kernel, by decide +kernel⟩
def spChased (P : Program) (w : World) (C : Addr) (A : PB) : Sp := fun vs H Q _ => ∃ (sc bk st : Addr) (L : List (List Row)), vs = [.ref sc, .ref bk, .ref st] ∧ Sta A H sc bk ∧ StoreAt H st L ∧ L0 A L ∧
  ∀ (H' : Hp) (p dx : Addr) (s : CS) (k : Nat), Fm Non H H' → ChAt P w C A sc bk p dx H' s → Run A k s → (s.cl = false → ∀ d ∈ A.dl, Sat A.wf (stOf s.Tb) d) → Q (.ref p) H'
theorem ok_chased {f fI fR : Addr} {fd fdI fdR : FuncData} (T : Txt K mg C) (F : Fun K "chased" "chased" sChased f fd) (M : Mk K C fI) (bI : Binds K fdI ["self", "scheme", "book", "store"] []) (GI : FnOk P w K mg base CX0 1 fI fdI ["self", "scheme", "book", "store"] (spInit P w C A))
    (oR : OwnM K C "run" fR fdR ["self"]) (GR : FnOk P w K mg base CX0 6 fR fdR ["self"] (spRun P w C A)) : FnOk P w K mg base CX0 7 f fd ["scheme", "book", "store"] (spChased P w C A) := by
  refine F.ok scChased (fun vs H Q E h => ?_) (fun cdv Ar outer sh H vs Q E hr h => ?_)
  · obtain ⟨sc, bk, st, L, rfl, _⟩ := h
    rfl
  · obtain ⟨sc, bk, st, L, rfl, hsta, hst, hL, q⟩ := h
    have nd := scChased.nd
    refine ⟨_, pss_cons (ps_set (i := 3) nd rfl (Or.inl rfl) (pe_make M GI (hr.mono (by decide)) rfl T.mgC bI .nil pass0 (pa_cons (pv 0) (pa_cons (pv 1) (pa_cons (pv 2) pa_nil)))))
      (pss_cons (ps_expr (pe_meth0 (pv 3) T.cl oR.mt GR hr oR.bd .nil pass0)) (pss_one (ps_ret (pv 3)))), ?_⟩
    refine ⟨_, rfl, _, rfl, _, rfl, ?_⟩
    intro x dx nx ndx nex
    have f1 : Fm Non H (upd H dx (.own x)) := .new ndx
    have f2 : Fm Non (upd H dx (.own x)) (upd (upd H dx (.own x)) x (.ins C dx [])) := .new (by rw [upd_ne nex.symm]; exact nx)
    have f12 := f1.trans f2
    refine ⟨sc, bk, st, x, dx, L, rfl, upd_same, hsta.tk f12.tk, hst.tk f12.tk, hL, fun H1 s fi X R hcl hfp => ⟨rfl, ?_⟩⟩
    have fH1 : Fm Non H H1 := f12.sub fi nx
    refine ⟨_, rfl, x, dx, _, rfl, X.ob, lkNo (by decide +kernel), sc, bk, x, dx, s, 0, rfl, X, R, hcl, fun H2 s2 k2 f X2 sub2 R2 hsat => ⟨_, rfl, ?_⟩⟩
    refine q H2 x dx s2 k2 (fH1.step f fun y hy => .inr ?_) X2 R2 hsat
    rcases hfp y hy with h | h
    · rw [h]; exact nx
    · exact f12.tr _ h
abbrev nChase : List Str := ["scheme", "book", "store", "found"]
theorem scChase : FnScope nChase ["scheme", "book", "store"] (defScope sChase) := ⟨rfl, rfl, rfl, by decide +kernel, rfl, by decide +kernel, by decide +kernel⟩
def spChase (A : PB) : Sp := fun vs H Q _ => ∃ (sc bk st : Addr) (L : List (List Row)), vs = [.ref sc, .ref bk, .ref st] ∧ Sta A H sc bk ∧ StoreAt H st L ∧ L0 A L ∧
  (∀ (H' : Hp) (k : Nat) (U : Store), Fm Non H H' → Steps A.wf A.dl k A.T0 U → Clash A.dl U → Q .non H') ∧
  ∀ (H' : Hp) (a : Addr) (L' : List (List Row)) (k : Nat) (U : Store), Fm Non H H' → Steps A.wf A.dl k A.T0 U → (∀ d ∈ A.dl, Sat A.wf U d) → StoreAt H' a L' → stOf L' = U → L'.length = A.n → (∀ rs ∈ L', rs.length ≤ 64) → Q (.ref a) H'
theorem ok_chase {f f1 f2 : Addr} {fd fd1 fd2 : FuncData} (T : Txt K mg C) (F : Fun K "chase" "chase" sChase f fd) (o1 : Own K mg "chased" f1 fd1 ["scheme", "book", "store"]) (G1 : FnOk P w K mg base CX0 7 f1 fd1 ["scheme", "book", "store"] (spChased P w C A)) (o2 : OwnM K C "store" f2 fd2 ["self"]) (G2 : FnOk P w K mg base CX0 1 f2 fd2 ["self"] (spStore P w C A)) :
    FnOk P w K mg base CX0 8 f fd ["scheme", "book", "store"] (spChase A) := by
  refine F.ok scChase (fun vs H Q E h => ?_) (fun cdv Ar outer sh H vs Q E hr h => ?_)
  · obtain ⟨sc, bk, st, L, rfl, _⟩ := h
    rfl
  · obtain ⟨sc, bk, st, L, rfl, hsta, hst, hL, qN, qS⟩ := h
    have nd := scChase.nd
    refine ⟨_, pss_cons (ps_set (i := 3) nd rfl (Or.inl rfl) (pe_call G1 hr rfl o1.mgf o1.kp o1.bd .nil pass0 (pa_cons (pv 0) (pa_cons (pv 1) (pa_cons (pv 2) pa_nil)))))
      (pss_one (ps_ret (pe_ifExp (pt_val (pe_fld (pv 3) rfl)) pe_non (pe_meth0 (pv 3) T.cl o2.mt G2 (hr.mono (by decide)) o2.bd .nil pass0)))), ?_⟩
    refine ⟨_, rfl, _, rfl, _, rfl, sc, bk, st, L, rfl, hsta, hst, hL, fun H1 p dx s k f X R hsat => ?_⟩
    refine ⟨_, rfl, p, C, dx, _, _, rfl, X.ob, T.cl, T.nCl, lkCl, _, rfl, ?_⟩
    cases hc : s.cl with
    | true => exact iteT (qN H1 k _ f R.steps (R.clash hc))
    | false =>
      refine iteF ⟨_, rfl, p, dx, _, rfl, X.ob, lkNo (by decide +kernel), sc, bk, p, dx, s, k, rfl, X, R, fun a H2 L' f2 hs hl he hf => ?_⟩
      exact qS H2 a L' k _ (f.trans f2) R.steps (hsat hc) hs he hl hf
/-! ### sure_rows -/
abbrev nSure : List Str := ["scheme", "book", "store", "found", "rows", "row"]
theorem scSure : FnScope nSure ["scheme", "book", "store"] (defScope sSure) := ⟨rfl, rfl, rfl, by decide +kernel, rfl, by decide +kernel, by decide +kernel⟩
def Known (r : Row) : Bool := r.all fun v => decide (0 ≤ v)
theorem known_iff {r : Row} : Known r = true ↔ ∀ v ∈ r, 0 ≤ v := by simp [Known]
def spSure (A : PB) : Sp := fun vs H Q _ => ∃ (sc bk st : Addr) (L : List (List Row)), vs = [.ref sc, .ref bk, .ref st] ∧ Sta A H sc bk ∧ StoreAt H st L ∧ L0 A L ∧
  (∀ (H' : Hp) (k : Nat) (U : Store), Fm Non H H' → Steps A.wf A.dl k A.T0 U → Clash A.dl U → Q .non H') ∧
  ∀ (H' : Hp) (a : Addr) (L' : List (List Row)) (k : Nat) (U : Store), Fm Non H H' → Steps A.wf A.dl k A.T0 U → (∀ d ∈ A.dl, Sat A.wf U d) → StoreAt H' a L' → L'.length = A.n → (∀ t r, stOf L' t r ↔ U t r ∧ ∀ v ∈ r, 0 ≤ v) → (∀ rs ∈ L', rs.length ≤ 64) → Q (.ref a) H'
theorem ok_sure {f f1 : Addr} {fd fd1 : FuncData} (ok : A.Ok) (F : Fun K "sure_rows" "sure_rows" sSure f fd) (o1 : Own K mg "chase" f1 fd1 ["scheme", "book", "store"]) (G1 : FnOk P w K mg base CX0 8 f1 fd1 ["scheme", "book", "store"] (spChase A)) (mt : mg "tuple" = none) (mm : mg "min" = none) :
    FnOk P w K mg base CX0 9 f fd ["scheme", "book", "store"] (spSure A) := by
  refine F.ok scSure (fun vs H Q E h => ?_) (fun cdv Ar outer sh H vs Q E hr h => ?_)
  · obtain ⟨sc, bk, st, L, rfl, _⟩ := h
    rfl
  · obtain ⟨sc, bk, st, L, rfl, hsta, hst, hL, qN, qS⟩ := h
    have nd := scSure.nd
    refine ⟨_, pss_cons (ps_set (i := 3) nd rfl (Or.inl rfl) (pe_call G1 hr rfl o1.mgf o1.kp o1.bd .nil pass0 (pa_cons (pv 0) (pa_cons (pv 1) (pa_cons (pv 2) pa_nil)))))
      (pss_cons (ps_if (pt_cmp (pc_isN (pv 3)) rfl) (pss_one (ps_ret pe_non)) pss_nil)
      (pss_one (ps_ret (pe_callTy cr_tup rfl mt (by rfl) (pa_cons (pe_lc (own := [("rows", 4)]) (g := gName 4) (tt := tYes) rfl nd (pi_tup (pv 3)) (blkOk_by (N := nSure) (sc := defScope sSure) (by decide +kernel)) (fun _ _ _ _ _ => pg_name (i := 4) nd rfl (Or.inl rfl)) (fun _ _ _ _ _ => pts_nil)
        (fun _ _ _ _ _ => pe_callTy (r := rTup K) cr_tup rfl mt (by rfl) (pa_cons (pe_lc (wi := iTup K (tVar 4)) (own := [("row", 5)]) (g := gName 5) (tt := tTest (tOp (rI0 fun i j => .bl (decide (j ≤ i))) (tCB (rMinT K) (tCons (tVar 5) tNil)) (tC (.int 0)))) rfl nd (pi_tup (pv 4)) (blkOk_by (N := nSure) (sc := sclL [(".0", .local), ("rows", .local), ("tuple", .globalImplicit)]) (by decide +kernel)) (fun _ _ _ _ _ => pg_name (i := 5) nd rfl (Or.inl rfl))
          (fun _ _ _ _ _ => pts_one (pt_cmpR op_ge (pe_callB (r := rMinT K) (cr_minT rfl) rfl mm PyProof.Rows.boot_min (pa_cons (pv 5) pa_nil)) pe_int (nomark _))) (fun _ _ _ _ _ => pv 5)) pa_nil))) pa_nil))))), ?_⟩
    have hn3 := ok.n3
    refine ⟨_, rfl, _, rfl, _, rfl, sc, bk, st, L, rfl, hsta, hst, hL, fun H1 k U f hs hc => ?_, fun H1 a L' k U f hs hsat hL' hU hlen hfew => ?_⟩
    · refine ⟨_, rfl, _, rfl, ?_⟩
      exact iteT (qN H1 k U f hs hc)
    · refine ⟨_, rfl, _, rfl, ?_⟩
      obtain ⟨es, hes, hpe⟩ := hL'
      have hel : es.length = L'.length := Paired.length hpe
      refine iteF ⟨_, rfl, a, rfl, ⟨_, .of hes⟩, fun D hD => ?_⟩
      refine lc_accG (walk_tup (K := K) (xs := es.map V.ref)) (S := Non) (fun i acc H' => ∃ (fs : List Addr) (M : List (List Row)), acc = fs.map V.ref ∧ Paired (TabT H') fs M ∧ Paired (fun rs rs' : List Row => rs' = rs.filter Known) (L'.take i) M) (by rw [List.length_map]; omega) hD id (fun H' f => .of (f.tk _ _ hes)) ?_ ?_ ?_ ?_
      · rintro i acc H2 H3 ⟨es, L, h1, h2, h3⟩ f
        exact ⟨es, L, h1, paired_map h2 fun _ _ z => z.tk f.tk, h3⟩
      · exact ⟨[], [], rfl, .nil, by rw [List.take_zero]; exact .nil⟩
      · rintro i x acc H2 H3 hi f2 ⟨fs, M, rfl, h2, h3⟩ _ ⟨rfl, hx⟩ Qt Qf kt kf
        obtain ⟨e, he, rfl⟩ := map_at hx
        obtain ⟨rs, hrs, qs, hq1, hq2, hq3⟩ := paired_at hpe he
        have hql : qs.length = rs.length := by have := congrArg List.length hq3; simpa using this
        have hr64 := hfew rs (List.mem_of_getElem? hrs)
        have wr : ∀ z ∈ qs, z.2 ≠ [] := fun z hz e0 => by
          have h1 : stOf L' i z.2 := ⟨rs, hrs, by rw [← hq3]; exact List.mem_map.mpr ⟨z, hz, rfl⟩⟩
          rw [hU] at h1
          have := steps_wf ok.dep ok.wf0 hs i z.2 h1
          have w1 := (ok.wid i this.1).1
          rw [e0] at this
          have := this.2
          simp at this
          omega
        refine ⟨rfl, _, rfl, e, rfl, ⟨_, .of (f2.tk _ _ hq1)⟩, fun D2 hD2 => ?_⟩
        refine lc_accG (walk_tupR (K := K) (b := e) (qs := qs)) (S := Non) (fun j acc H' => acc = ((qs.take j).filter fun z => Known z.2).map fun z => V.ref z.1) (by omega) hD2 id (fun H' f => .of (f.tk _ _ (f2.tk _ _ hq1))) (fun i acc H1 H2 e _ => e) rfl ?_ ?_
        · rintro j y acc H4 H5 hj f4 rfl _ ⟨rfl, z, hz, rfl⟩ Qt' Qf' kt' kf'
          have hzq := List.mem_of_getElem? hz
          refine ⟨rfl, _, rfl, z.1, z.2, rfl, .of (f4.tk _ _ (f2.tk _ _ (hq2 z hzq))), wr z hzq, fun m hm hmin => ⟨_, _, rfl, rfl, _, rfl, ?_⟩⟩
          rw [List.take_add_one, hz] at kt' kf'
          refine ite2 (fun hc => ?_) (fun hc => ?_)
          · have hc : (0 : Int) ≤ m := by simpa using hc
            have hk : Known z.2 = true := known_iff.mpr fun v hv => by have := hmin v hv; omega
            exact ⟨_, rfl, kt' _ _ .refl (by simp [hk])⟩
          · have hc : ¬ (0 : Int) ≤ m := by simpa using hc
            have hk : ¬ Known z.2 = true := fun h => hc (known_iff.mp h m hm)
            exact kf' _ .refl (by simp [hk])
        · rintro acc H4 f4 hl4 hd4 rfl
          rw [List.take_length] at hd4
          refine ⟨D2, _, rfl, .inl ⟨.of hd4, fun tp htp => ?_⟩⟩
          have ft : Fm Non H4 (upd H4 tp (.tup ((qs.filter fun z => Known z.2).map fun z => V.ref z.1))) := .new htp
          refine kt _ _ (f4.trans ft) ⟨fs ++ [tp], M ++ [rs.filter Known], by simp, Paired.snoc (paired_map h2 fun _ _ z => z.tk (f4.trans ft).tk) ⟨qs.filter fun z => Known z.2, upd_same, fun z hz => (f4.trans ft).tk _ _ (f2.tk _ _ (hq2 z (List.mem_filter.mp hz).1)), ?_⟩, ?_⟩
          · rw [← hq3, List.filter_map]; rfl
          · rw [List.take_add_one, hrs]
            exact Paired.snoc h3 rfl
      · rintro acc H2 f2 hl2 hd2 ⟨fs, M, rfl, h2, h3⟩
        rw [List.length_map, hel, List.take_length] at h3
        refine ⟨D, _, rfl, .inl ⟨.of hd2, fun b hb => ?_⟩⟩
        have fb : Fm Non H2 (upd H2 b (.tup (fs.map V.ref))) := .new hb
        refine qS _ b M k U ((f.trans f2).trans fb) hs hsat ⟨fs, upd_same, paired_map h2 fun _ _ z => z.tk fb.tk⟩ (by rw [← Paired.length h3]; exact hlen) (fun t r => ?_) fun rs hrs => ?_
        · rw [← hU]
          constructor
          · rintro ⟨rs', g1, g2⟩
            obtain ⟨rs, g3, rfl⟩ := paired_at2 h3 g1
            obtain ⟨g4, g5⟩ := List.mem_filter.mp g2
            exact ⟨⟨rs, g3, g4⟩, known_iff.mp g5⟩
          · rintro ⟨⟨rs, g3, g5⟩, g6⟩
            obtain ⟨rs', g1, rfl⟩ := paired_at h3 g3
            exact ⟨_, g1, List.mem_filter.mpr ⟨g5, known_iff.mpr g6⟩⟩
        · obtain ⟨t, ht⟩ := List.getElem?_of_mem hrs
          obtain ⟨rs0, g3, rfl⟩ := paired_at2 h3 ht
          exact Nat.le_trans (List.length_filter_le _ _) (hfew rs0 (List.mem_of_getElem? g3))
end
end Nor
end
section
/-! The law's draws. -/
namespace Nor
open PySem L2 L2.NW
/-- the draws -/
def DrawsAt (H : Hp) (D : Addr) : Prop := ∃ ns : List Int, H D = some (.lst (ns.map V.int)) ∧ ns.length ≤ 1000
theorem DrawsAt.fm {S : Addr → Prop} {H H' : Hp} {D : Addr} (x : DrawsAt H D) (f : Fm S H H') (n : ¬ S D) : DrawsAt H' D := let ⟨ns, h, l⟩ := x; ⟨ns, f.ob _ _ h n, l⟩
theorem DrawsAt.ne {H : Hp} {D a : Addr} (x : DrawsAt H D) (h : H a = none) : a ≠ D := fun z => by obtain ⟨ns, e, _⟩ := x; rw [← z, h] at e; cases e
abbrev isD (D : Addr) : Addr → Prop := fun x => x = D
section
variable {P : Program} {w : World} {K : PySem.W.Frag} {mg : Str → Option Value} {base : Heap} {H H' : Hp}
theorem seq_join {t1 t2 : TS} {D : Ends} {σ : St} {H : Hp} (N : St → Hp → Prop) (h1 : ∀ R : St → Hp → Prop, (∀ σ H, N σ H → R σ H) → t1 { D with nx := R } σ H) (h2 : ∀ σ H, N σ H → t2 D σ H) : tSeq t1 t2 D σ H := h1 _ h2
theorem gname_i {i : Nat} {v : V} {σ : St} {H : Hp} {Q : St → Hp → Prop} (h : Q (σ.set i (some v)) H) : gName i v σ H Q := h
theorem ix_nat {n j : Nat} (hj : j < n) : ixN n (j : Int) = some j := by
  unfold ixN
  rw [if_pos (by omega), if_pos (by omega)]
  simp
theorem ints_at {cs : List Int} {j : Nat} (h : j < cs.length) : (cs.map V.int)[j]? = some (V.int cs[j]) := by simp [h]
theorem modc (i n : Nat) : (i : Int) % (n : Int) = ((i % n : Nat) : Int) := by simp
abbrev nDraws : List Str := ["_law_script", "_law_many", "_law_cells", "_law_rest", "_law_draws_here", "_law_k", "_law_at", "_law_once", "_law_cell_here"]
theorem scDraws : FnScope nDraws ["_law_script", "_law_many"] (defScope sDraws) := ⟨rfl, rfl, rfl, by decide +kernel, rfl, by decide +kernel, by decide +kernel⟩
def spDraws (K : PySem.W.Frag) : Sp := fun vs H Q _ => ∃ (a : Addr) (ns : List Int) (m : Nat), vs = [.ref a, .int (m : Int)] ∧ SqL K H a (ns.map V.int) ∧ ns.length ≤ 1000 ∧ m ≤ 1000 ∧ ∀ p H', H p = none → Fm Non H H' → DrawsAt H' p → Q (.ref p) H'
def rInt : List V → Hp → VK → Prop := fun xs H Q => (∃ i, xs = [.int i] ∧ Q (.int i) H) ∨ ∃ k, xs = [.bl k] ∧ Q (.int (if k then 1 else 0)) H
theorem cr_int {X : Cx} : CallR X (.type "int") rInt := call_int1
theorem ok_draws {f : Addr} {fd : FuncData} (F : Fun K "_law_draws" "_law_draws" sDraws f fd) (mi : mg "int" = none) (ml : mg "len" = none) (mr : mg "range" = none) (mli : mg "list" = none) : FnOk P w K mg base CX0 1 f fd ["_law_script", "_law_many"] (spDraws K) := by
  refine F.ok scDraws (fun vs H Q E h => ?_) (fun cdv Ar outer sh H vs Q E hr h => ?_)
  · obtain ⟨a, ns, m, rfl, _⟩ := h
    rfl
  · obtain ⟨a, ns, m, rfl, ha, hn, hm, k⟩ := h
    have nd := scDraws.nd
    refine ⟨_, pss_cons (ps_setLc (i := 2) (own := [("_law_cell_here", 8)]) (g := gName 8) (tt := tYes) rfl nd rfl rfl (sw_true rfl rfl rfl (by decide +kernel)) (pi_list (pv 0)) (blkOk_by (N := nDraws) (sc := defScope sDraws) (by decide +kernel)) (fun _ _ _ _ _ => pg_name (i := 8) nd rfl (Or.inl rfl)) (fun _ _ _ _ _ => pts_nil)
        (fun _ _ _ _ _ => pe_callTy cr_int rfl mi (by rfl) (pa_cons (pv 8) pa_nil)))
      (pss_cons (ps_if (pt_cmpR op_eq (pe_callB call_len_seq (by rfl) ml PySem.boot_len (pa_cons (pv 2) pa_nil)) pe_int (nomark _)) (pss_one (ps_expr (pe_bm PySem.F.plainAttrs_list PySem.F.slot_list_append PySem.F.type_list_append mt_append (pv 2) (pa_cons pe_int pa_nil)))) pss_nil)
      (pss_cons (ps_set (i := 3) nd rfl (Or.inl rfl) (pe_callTy call_list_of rfl mli (by rfl) (pa_cons (pv 2) pa_nil)))
      (pss_cons (ps_set (i := 4) nd rfl (Or.inl rfl) (pe_lst pa_nil))
      (pss_cons (ps_for PassesOwn.never rfl (pi_range1 rfl mr (pa_cons (pv 1) pa_nil)) (pg_name (i := 5) nd rfl (Or.inl rfl))
        (pss_cons (ps_set (i := 6) nd rfl (Or.inl rfl) (pe_op op_mod (pv 5) (pe_callB call_len_seq (by rfl) ml PySem.boot_len (pa_cons (pv 2) pa_nil))))
        (pss_one (ps_if (pt_cmpR op_ge (pe_ix ix_list (pv 2) (pv 6) (fun _ _ => rfl)) (pe_op op_pow pe_int pe_int) (nomark _))
          (pss_cons (ps_expr (pe_bm PySem.F.plainAttrs_list PySem.F.slot_list_append PySem.F.type_list_append mt_append (pv 4) (pa_cons (pe_op op_mod (pe_callTy cr_int rfl mi (by rfl) (pa_cons (pe_ix ix_list (pv 3) (pv 6) (fun _ _ => rfl)) pa_nil)) pe_int) pa_nil)))
          (pss_one (ps_asg (pe_op op_fdiv (pe_ix ix_list (pv 3) (pv 6) (fun _ _ => rfl)) pe_int) (pg_sub (pv 3) (pv 6) set_list))))
          (pss_cons (ps_set (i := 7) nd rfl (Or.inl rfl) (pe_op op_mod (pe_callTy cr_int rfl mi (by rfl) (pa_cons (pe_op op_add (pe_op op_add (pe_op op_mul (pe_ix ix_list (pv 2) (pv 6) (fun _ _ => rfl)) pe_int) (pe_op op_mul (pv 5) pe_int)) pe_int) pa_nil)) pe_int))
          (pss_one (ps_expr (pe_bm PySem.F.plainAttrs_list PySem.F.slot_list_append PySem.F.type_list_append mt_append (pv 4) (pa_cons (pe_op op_mod (pe_callTy cr_int rfl mi (by rfl) (pa_cons (pe_op op_add (pe_op op_add (pe_op op_mul (pv 7) (pv 7)) (pe_op op_mul pe_int (pv 7))) (pv 5)) pa_nil)) pe_int) pa_nil)))))))))
      (pss_cons (ps_expr (pe_bm0 PySem.F.plainAttrs_list PySem.F.slot_list_reverse PySem.F.type_list_reverse mt_reverse (pv 4))) (pss_one (ps_ret (pv 4)))))))), ?_⟩
    refine ⟨_, rfl, a, rfl, ⟨_, ha⟩, fun c hc => ?_⟩
    refine lc_acc (walk_list (K := K) (xs := ns.map V.int)) (S := Non) (fun i acc H' => acc = (ns.take i).map V.int) (by rw [List.length_map]; omega) hc id (fun x => by rfl) (fun H' f => f.sl ha id) (fun i acc H1 H2 e _ => e) rfl ?_ ?_
    · rintro i x acc H2 H3 hi f rfl ⟨rfl, hx⟩
      refine ⟨.refl, fun _ _ Qt Qf kt kf => ?_⟩
      obtain ⟨v, hv, rfl⟩ := map_at hx
      refine ⟨_, rfl, .inl ⟨_, rfl, kt _ _ .refl ?_⟩⟩
      rw [List.take_add_one, hv]; simp
    · rintro acc H1 f1 hl1 hd1 rfl
      rw [List.length_map, List.take_length] at *
      refine gname_i ?_
      dsimp only
      refine seq_join (t1 := tIfS _ _ _) (fun σ H2 => ∃ cs : List Int, σ = [some (.ref a), some (.int (m : Int)), some (.ref c), none, none, none, none, none, none] ∧ Fm Non H H2 ∧ H2 c = some (.lst (cs.map V.int)) ∧ 1 ≤ cs.length ∧ cs.length ≤ 1000) (fun R hR => ?_) ?_
      · refine ⟨_, rfl, c, _, rfl, .inl (.of hd1), rfl, _, rfl, ?_⟩
        refine ite2 (fun h0 => ?_) (fun h0 => ?_)
        · refine ⟨_, rfl, .inl ⟨rfl, _, SqL.of hd1⟩, c, _, _, rfl, rfl, hd1, by rw [List.length_map, sizeLine_eq]; omega, ?_⟩
          refine hR _ _ ⟨ns ++ [0], rfl, f1.sub (.mut hd1 (fun _ => lst_ne) rfl) hc, by rw [upd_same]; simp, by simp, ?_⟩
          have : ns.length = 0 := by
            have : ((ns.map V.int).length : Int) = 0 := by simpa using h0
            rw [List.length_map] at this
            omega
          simp [this]
        · refine hR _ _ ⟨ns, rfl, f1, hd1, ?_, hn⟩
          cases ns with
          | nil => exact absurd rfl h0
          | cons => simp
      · rintro σ H2 ⟨cs, rfl, f2, hc2, h1, h1000⟩
        -- rest, draws
        refine ⟨_, rfl, c, _, rfl, .inl (.of hc2), fun r hr2 => ?_⟩
        have g1 : Fm Non H2 (upd H2 r (.lst (cs.map V.int))) := .new hr2
        refine ⟨Nat.zero_le _, fun d hd2 => ?_⟩
        have g2 : Fm Non _ (upd (upd H2 r (.lst (cs.map V.int))) d (.lst [])) := .new hd2
        have g12 := g1.trans g2
        have fH := f2.trans g12
        have nrH : H r = none := f2.tr _ hr2
        have ndH : H d = none := (f2.trans g1).tr _ hd2
        have hc3 := g12.ob _ _ hc2 id
        have hr3 := g2.ob _ _ (upd_same (H := H2) (a := r)) id
        have hd3 : upd (upd H2 r (.lst (cs.map V.int))) d (.lst []) d = some (.lst []) := upd_same
        have ncr : c ≠ r := ne_of_none hc2 hr2
        have ncd : c ≠ d := ne_of_none (g1.ob _ _ hc2 id) hd2
        have nrd : r ≠ d := ne_of_none (upd_same (H := H2) (a := r)) hd2
        generalize hH3 : upd (upd H2 r (.lst (cs.map V.int))) d (.lst []) = H3 at fH hc3 hr3 hd3 ⊢
        refine ⟨_, rfl, m, rfl, by omega, by omega, for_it walk_r0 (fun i σ Hc => ∃ (rs ds : List Int) (x5 x6 x7 : Option V), σ = [some (.ref a), some (.int (m : Int)), some (.ref c), some (.ref r), some (.ref d), x5, x6, x7, none] ∧ Fm Non H Hc ∧ Hc c = some (.lst (cs.map V.int)) ∧ Hc r = some (.lst (rs.map V.int)) ∧ rs.length = cs.length ∧ Hc d = some (.lst (ds.map V.int)) ∧ ds.length ≤ i) ?_ ?_ ?_ ?_⟩
        · exact ⟨cs, [], _, _, _, rfl, fH, hc3, hr3, rfl, hd3, Nat.le_refl _⟩
        · intro _ _ _ _ _; trivial
        · rintro i x σ Hc0 Hc hi ⟨rs, ds, x5, x6, x7, rfl, fc, hcc, hcr, hrl, hcd, hdl⟩ ⟨rfl, rfl⟩
          have hlt : i % cs.length < cs.length := Nat.mod_lt _ (by omega)
          refine ⟨_, rfl, _, rfl, c, _, rfl, .inl (.of hcc), _, _, rfl, rfl, by rw [List.length_map]; show (0 : Int) < (cs.length : Int); omega, ?_⟩
          have hmod : (i : Int) % ((cs.map V.int).length : Int) = ((i % cs.length : Nat) : Int) := by rw [List.length_map]; exact modc i cs.length
          have ac : atI (cs.map V.int) ((i : Int) % ((cs.map V.int).length : Int)) = some (.int cs[i % cs.length]) := by rw [hmod]; exact atI_nat (ints_at hlt)
          have hlr : i % cs.length < rs.length := by rw [hrl]; exact hlt
          have ar : atI (rs.map V.int) ((i : Int) % ((cs.map V.int).length : Int)) = some (.int rs[i % cs.length]) := by rw [hmod]; exact atI_nat (ints_at hlr)
          have ixr : ixN (rs.map V.int).length ((i : Int) % ((cs.map V.int).length : Int)) = some (i % cs.length) := by rw [hmod]; exact ix_nat (by rw [List.length_map]; exact hlr)
          refine ⟨_, rfl, _, rfl, c, _, _, _, rfl, rfl, .of hcc, ac, _, _, rfl, rfl, ⟨by decide, by decide, by decide⟩, _, _, rfl, rfl, _, rfl, ?_⟩
          refine ite2 (fun hge => ?_) (fun hge => ?_)
          · refine ⟨_, rfl, .inl ⟨rfl, _, SqL.of hcd⟩, ?_⟩
            refine ⟨_, rfl, _, rfl, r, _, _, _, rfl, rfl, .of hcr, ar, .inl ⟨_, rfl, _, _, rfl, rfl, (by show (0 : Int) < 1000; decide), d, _, _, rfl, rfl, hcd, by rw [List.length_map, sizeLine_eq]; omega, ?_⟩⟩
            have fd := Fm.mut (S := fun x => x = d) (o := .lst (ds.map V.int ++ [.int (rs[i % cs.length] % 1000)])) hcd (fun _ => lst_ne) rfl
            have hcr2 := fd.ob _ _ hcr nrd
            refine ⟨_, rfl, _, rfl, r, _, _, _, rfl, rfl, .of hcr2, ar, _, _, rfl, rfl, ⟨by decide, by decide⟩, _, rfl, _, rfl, r, _, _, _, rfl, rfl, hcr2, ixr, ?_⟩
            have fr := Fm.mut (S := fun x => x = r) (o := .lst ((rs.map V.int).set (i % cs.length) (.int (rs[i % cs.length] / 1000)))) hcr2 (fun _ => lst_ne) rfl
            refine ⟨rs.set (i % cs.length) (rs[i % cs.length] / 1000), ds ++ [rs[i % cs.length] % 1000], _, _, _, rfl, (fc.sub fd ndH).sub fr nrH, fr.ob _ _ (fd.ob _ _ hcc ncd) ncr, by rw [upd_same, List.map_set], by simp [hrl], by rw [fr.ob _ _ upd_same nrd.symm]; simp, by simp; omega⟩
          · refine ⟨_, rfl, _, rfl, c, _, _, _, rfl, rfl, .of hcc, ac, _, _, rfl, rfl, .inr ⟨by decide, by decide⟩, _, rfl, _, _, rfl, rfl, .inl ⟨by omega, by omega⟩, _, _, rfl, rfl, _, _, rfl, rfl, .inl ⟨_, rfl, _, _, rfl, rfl, (by show (0 : Int) < 2147483647; decide), ?_⟩⟩
            have b0 := Int.emod_nonneg (cs[i % cs.length] * 48271 + (i : Int) * 69621 + 11) (show (2147483647 : Int) ≠ 0 by decide)
            have b1 := Int.emod_lt_of_pos (cs[i % cs.length] * 48271 + (i : Int) * 69621 + 11) (show (0 : Int) < 2147483647 by decide)
            refine ⟨_, rfl, .inl ⟨rfl, _, SqL.of hcd⟩, ?_⟩
            refine ⟨_, rfl, _, rfl, _, _, rfl, rfl, .inl ⟨by omega, by omega⟩, _, rfl, _, _, rfl, rfl, .inl ⟨by decide, by decide⟩, _, _, rfl, rfl, _, rfl, _, _, rfl, rfl, .inl ⟨_, rfl, _, _, rfl, rfl, (by show (0 : Int) < 1000003; decide), d, _, _, rfl, rfl, hcd, by rw [List.length_map, sizeLine_eq]; omega, ?_⟩⟩
            have fd := Fm.mut (S := fun x => x = d) (o := .lst (ds.map V.int ++ [.int ((((cs[i % cs.length] * 48271 + (i : Int) * 69621 + 11) % 2147483647) * ((cs[i % cs.length] * 48271 + (i : Int) * 69621 + 11) % 2147483647) + 3 * ((cs[i % cs.length] * 48271 + (i : Int) * 69621 + 11) % 2147483647) + (i : Int)) % 1000003)])) hcd (fun _ => lst_ne) rfl
            refine ⟨rs, ds ++ [(((cs[i % cs.length] * 48271 + (i : Int) * 69621 + 11) % 2147483647) * ((cs[i % cs.length] * 48271 + (i : Int) * 69621 + 11) % 2147483647) + 3 * ((cs[i % cs.length] * 48271 + (i : Int) * 69621 + 11) % 2147483647) + (i : Int)) % 1000003], _, _, _, rfl, fc.sub fd ndH, fd.ob _ _ hcc ncd, fd.ob _ _ hcr nrd, hrl, by rw [upd_same]; simp, by simp; omega⟩
        · rintro σ Hc ⟨rs, ds, x5, x6, x7, rfl, fc, hcc, hcr, hrl, hcd, hdl⟩
          refine ⟨_, rfl, .inl ⟨rfl, _, SqL.of hcd⟩, d, _, rfl, rfl, hcd, _, rfl, ?_⟩
          have fd := Fm.mut (S := fun x => x = d) (o := .lst (ds.map V.int).reverse) hcd (fun _ => lst_ne) rfl
          exact k d _ ndH (fc.sub fd ndH) ⟨ds.reverse, by rw [upd_same]; simp, by simp; omega⟩
end
end Nor
end
section
/-! take, cell, scheme, mixed, columns, most. -/
namespace Nor
open PySem L2 L2.NW
section
variable {P : Program} {w : World} {K : PySem.W.Frag} {mg : Str → Option Value} {base : Heap} {H H' : Hp}
/-- the script, apart from the draws -/
def Scr (K : PySem.W.Frag) (H : Hp) (D a : Addr) (ns : List Int) : Prop := (a ≠ D ∧ Rd H a (.lst (ns.map V.int))) ∨
  ∃ (o : Obj) (its : Array Value) (n : Nat), K.lookup a = some o ∧ o.cls = .type "list" ∧ o.dict = none ∧ o.data = .seq its n ∧ its.size ≤ sizeLine ∧ Vals (ns.map V.int) its.toList
theorem Scr.sq {H : Hp} {D a : Addr} {ns : List Int} (x : Scr K H D a ns) : SqL K H a (ns.map V.int) := x.elim (fun h => .inl h.2) .inr
theorem Scr.fm {H H' : Hp} {D a : Addr} {ns : List Int} (x : Scr K H D a ns) (f : Fm (isD D) H H') : Scr K H' D a ns := by
  rcases x with ⟨n, h | ⟨o, h⟩⟩ | h
  · exact .inl ⟨n, .inl (f.ob _ _ h n)⟩
  · exact .inl ⟨n, .inr ⟨o, f.ob _ _ h n⟩⟩
  · exact .inr h
theorem Scr.new {H H' : Hp} {D a : Addr} {ns : List Int} (x : SqL K H a (ns.map V.int)) (h : H D = none) (f : Fm Non H H') : Scr K H' D a ns := by
  rcases x with (x | ⟨o, x⟩) | x
  · exact .inl ⟨ne_of_none x h, .inl (f.ob _ _ x id)⟩
  · exact .inl ⟨ne_of_none x h, .inr ⟨o, f.ob _ _ x id⟩⟩
  · exact .inr x
abbrev nTake : List Str := ["_law_draws_here", "_law_many"]
theorem scTake : FnScope nTake ["_law_draws_here", "_law_many"] (defScope sTake) := ⟨rfl, rfl, rfl, by decide +kernel, rfl, by decide +kernel, by decide +kernel⟩
def spTake : Sp := fun vs H Q _ => ∃ (D : Addr) (n : Nat), vs = [.ref D, .int (n : Int)] ∧ DrawsAt H D ∧ 1 ≤ n ∧ ∀ (r : Nat) H', r < n → Fm (isD D) H H' → DrawsAt H' D → Q (.int (r : Int)) H'
theorem ok_take {f : Addr} {fd : FuncData} (F : Fun K "_law_take" "_law_take" sTake f fd) (mi : mg "int" = none) (ml : mg "len" = none) : FnOk P w K mg base CX0 1 f fd ["_law_draws_here", "_law_many"] spTake := by
  refine F.ok scTake (fun vs H Q E h => ?_) (fun cdv Ar outer sh H vs Q E hr h => ?_)
  · obtain ⟨D, n, rfl, _⟩ := h
    rfl
  · obtain ⟨D, n, rfl, hD, hn, k⟩ := h
    refine ⟨_, pss_cons (ps_if (pt_cmpR op_eq (pe_callB call_len_seq (by rfl) ml PySem.boot_len (pa_cons (pv 0) pa_nil)) pe_int (nomark _)) (pss_one (ps_ret pe_int)) pss_nil)
      (pss_one (ps_ret (pe_op op_mod (pe_callTy cr_int rfl mi (by rfl) (pa_cons (pe_bm0 PySem.F.plainAttrs_list PySem.F.slot_list_pop PySem.F.type_list_pop mt_pop (pv 0)) pa_nil)) (pv 1)))), ?_⟩
    obtain ⟨ns, hd, hl⟩ := id hD
    refine ⟨_, rfl, D, _, rfl, .inl (.of hd), rfl, _, rfl, ?_⟩
    refine ite2 (fun h0 => ?_) (fun h0 => ?_)
    · exact k 0 H (by omega) .refl hD
    · have hne : ns ≠ [] := fun z => h0 (by rw [z]; rfl)
      obtain ⟨v, hv⟩ : ∃ v, ns[ns.length - 1]? = some v := ⟨_, List.getElem?_eq_getElem (by have := List.length_pos_iff.mpr hne; omega)⟩
      refine ⟨_, rfl, .inl ⟨rfl, _, SqL.of hd⟩, D, _, .int v, rfl, rfl, hd, by rw [List.length_map, List.getElem?_map, hv]; rfl, .inl ⟨_, rfl, _, rfl, _, _, rfl, rfl, (by show (0 : Int) < (n : Int); omega), ?_⟩⟩
      have hp : (0 : Int) < (n : Int) := by omega
      have b0 := Int.emod_nonneg v (show (n : Int) ≠ 0 by omega)
      have b1 := Int.emod_lt_of_pos v hp
      have e : v % (n : Int) = ((v % (n : Int)).toNat : Int) := by omega
      show Q (.int (v % (n : Int))) _
      rw [e]
      exact k _ _ (by omega) (.mut hd (fun _ => lst_ne) rfl) ⟨ns.dropLast, by rw [upd_same]; simp, by simp; omega⟩
abbrev pDr : List Str := ["_law_draws_here"]
abbrev OTake (K : PySem.W.Frag) (mg : Str → Option Value) (f : Addr) (fd : FuncData) : Prop := Own K mg "_law_take" f fd ["_law_draws_here", "_law_many"]
abbrev GTake (P : Program) (w : World) (K : PySem.W.Frag) (mg : Str → Option Value) (base : Heap) (f : Addr) (fd : FuncData) : Prop := FnOk P w K mg base CX0 1 f fd ["_law_draws_here", "_law_many"] spTake
/-! ### cell -/
abbrev nCell : List Str := ["_law_script", "_law_draws_here"]
theorem scCell : FnScope nCell ["_law_script", "_law_draws_here"] (defScope sCell) := ⟨rfl, rfl, rfl, by decide +kernel, rfl, by decide +kernel, by decide +kernel⟩
def spCellN (K : PySem.W.Frag) : Sp := fun vs H Q _ => ∃ (a D : Addr) (ns : List Int), vs = [.ref a, .ref D] ∧ Scr K H D a ns ∧ DrawsAt H D ∧ ∀ (v : Int) H', Fm (isD D) H H' → DrawsAt H' D → Q (.int v) H'
theorem ok_cell {f f1 : Addr} {fd fd1 : FuncData} (F : Fun K "_law_cell" "_law_cell" sCell f fd) (o1 : OTake K mg f1 fd1) (G1 : GTake P w K mg base f1 fd1) (mi : mg "int" = none) (ml : mg "len" = none) : FnOk P w K mg base CX0 2 f fd ["_law_script", "_law_draws_here"] (spCellN K) := by
  refine F.ok scCell (fun vs H Q E h => ?_) (fun cdv Ar outer sh H vs Q E hr h => ?_)
  · obtain ⟨a, D, ns, rfl, _⟩ := h
    rfl
  · obtain ⟨a, D, ns, rfl, ha, hD, k⟩ := h
    refine ⟨_, pss_cons (ps_if (pt_cmpR op_eq (pe_callB call_len_seq (by rfl) ml PySem.boot_len (pa_cons (pv 0) pa_nil)) pe_int (nomark _)) (pss_one (ps_ret pe_int)) pss_nil)
      (pss_one (ps_ret (pe_callTy cr_int rfl mi (by rfl) (pa_cons (pe_ix ix_list (pv 0) (pe_call G1 hr rfl o1.mgf o1.kp o1.bd .nil pass0 (pa_cons (pv 1) (pa_cons (pe_callB call_len_seq (by rfl) ml PySem.boot_len (pa_cons (pv 0) pa_nil)) pa_nil))) (fun _ _ => rfl)) pa_nil)))), ?_⟩
    refine ⟨_, rfl, a, _, rfl, .inl ha.sq, rfl, _, rfl, ?_⟩
    refine ite2 (fun h0 => ?_) (fun h0 => ?_)
    · exact k 0 H .refl hD
    · have hne : ns ≠ [] := fun z => h0 (by rw [z]; rfl)
      have hpos := List.length_pos_iff.mpr hne
      refine ⟨_, rfl, _, rfl, _, rfl, a, _, rfl, .inl ha.sq, D, _, rfl, hD, (by rw [List.length_map]; exact hpos), fun r H1 hr1 f1 d1 => ?_⟩
      rw [List.length_map] at hr1
      exact ⟨a, _, _, _, rfl, rfl, (ha.fm f1).sq, atI_nat (ints_at hr1), .inl ⟨_, rfl, k _ H1 f1 d1⟩⟩
/-! ### scheme -/
abbrev nScheme : List Str := ["_law_draws_here", "_law_kind"]
theorem scScheme : FnScope nScheme ["_law_draws_here"] (defScope sScheme) := ⟨rfl, rfl, rfl, by decide +kernel, rfl, by decide +kernel, by decide +kernel⟩
def spScheme : Sp := fun vs H Q _ => ∃ (D : Addr), vs = [.ref D] ∧ DrawsAt H D ∧ ∀ (a : Addr) (ws : List Nat) H', Tu H' a (nV ws) → 1 ≤ ws.length → ws.length ≤ 3 → (∀ x ∈ ws, 1 ≤ x ∧ x ≤ 4) → Fm (isD D) H H' → DrawsAt H' D → Q (.ref a) H'
theorem one_plus (r : Nat) : (1 : Int) + (r : Int) = ((1 + r : Nat) : Int) := by omega
theorem ok_scheme {f f1 : Addr} {fd fd1 : FuncData} (F : Fun K "_law_scheme" "_law_scheme" sScheme f fd) (o1 : OTake K mg f1 fd1) (G1 : GTake P w K mg base f1 fd1) : FnOk P w K mg base CX0 2 f fd ["_law_draws_here"] spScheme := by
  refine F.ok scScheme (fun vs H Q E h => ?_) (fun cdv Ar outer sh H vs Q E hr h => ?_)
  · obtain ⟨D, rfl, _⟩ := h
    rfl
  · obtain ⟨D, rfl, hD, k⟩ := h
    have nd := scScheme.nd
    refine ⟨_, pss_cons (ps_set (i := 1) nd rfl (Or.inl rfl) (pe_call G1 hr rfl o1.mgf o1.kp o1.bd .nil pass0 (pa_cons (pv 0) (pa_cons pe_int pa_nil))))
      (pss_cons (ps_if (pt_cmpR op_lt (pv 1) pe_int (nomark _)) (pss_one (ps_ret (pe_tup (pa_cons (pe_ix ix_list (pe_lst (pa_cons pe_int (pa_cons pe_int (pa_cons pe_int (pa_cons pe_int (pa_cons pe_int (pa_cons pe_int pa_nil))))))) (pe_call G1 hr rfl o1.mgf o1.kp o1.bd .nil pass0 (pa_cons (pv 0) (pa_cons pe_int pa_nil))) (fun _ _ => rfl)) pa_nil)))) pss_nil)
      (pss_cons (ps_if (pt_cmpR op_lt (pv 1) pe_int (nomark _)) (pss_one (ps_ret (pe_tup (pa_cons (pe_op op_add pe_int (pe_call G1 hr rfl o1.mgf o1.kp o1.bd .nil pass0 (pa_cons (pv 0) (pa_cons pe_int pa_nil)))) (pa_cons (pe_op op_add pe_int (pe_call G1 hr rfl o1.mgf o1.kp o1.bd .nil pass0 (pa_cons (pv 0) (pa_cons pe_int pa_nil)))) pa_nil))))) pss_nil)
      (pss_one (ps_ret (pe_tup (pa_cons (pe_op op_add pe_int (pe_call G1 hr rfl o1.mgf o1.kp o1.bd .nil pass0 (pa_cons (pv 0) (pa_cons pe_int pa_nil)))) (pa_cons (pe_op op_add pe_int (pe_call G1 hr rfl o1.mgf o1.kp o1.bd .nil pass0 (pa_cons (pv 0) (pa_cons pe_int pa_nil)))) (pa_cons (pe_op op_add pe_int (pe_call G1 hr rfl o1.mgf o1.kp o1.bd .nil pass0 (pa_cons (pv 0) (pa_cons pe_int pa_nil)))) pa_nil)))))))), ?_⟩
    refine ⟨_, rfl, D, 5, rfl, hD, by decide, fun r1 H1 hr1 f1 d1 => ?_⟩
    refine ⟨_, rfl, _, _, rfl, rfl, _, rfl, ?_⟩
    refine ite2 (fun _ => ?_) (fun _ => ?_)
    · refine ⟨by show 6 ≤ sizeLine; decide, fun l hl => ⟨_, rfl, D, 6, rfl, d1.fm (S := Non) (.new hl) id, by decide, fun r2 H2 hr2 f2 d2 => ?_⟩⟩
      have fl : Fm (isD D) H1 (upd H1 l (.lst [.int 2, .int 3, .int 3, .int 4, .int 4, .int 4])) := .new hl
      have hl2 := f2.ob l _ (upd_same (H := H1) (a := l) (o := .lst [.int 2, .int 3, .int 3, .int 4, .int 4, .int 4])) (d1.ne hl)
      obtain ⟨x, hx, h1, h4⟩ : ∃ x : Nat, ([.int 2, .int 3, .int 3, .int 4, .int 4, .int 4] : List V)[r2]? = some (.int (x : Int)) ∧ 1 ≤ x ∧ x ≤ 4 := by
        match r2, hr2 with
        | 0, _ => exact ⟨2, rfl, by decide, by decide⟩
        | 1, _ => exact ⟨3, rfl, by decide, by decide⟩
        | 2, _ => exact ⟨3, rfl, by decide, by decide⟩
        | 3, _ => exact ⟨4, rfl, by decide, by decide⟩
        | 4, _ => exact ⟨4, rfl, by decide, by decide⟩
        | 5, _ => exact ⟨4, rfl, by decide, by decide⟩
      refine ⟨l, _, _, _, rfl, rfl, .of hl2, atI_nat hx, by show 1 ≤ sizeLine; decide, fun a ha => ?_⟩
      have fa : Fm (isD D) H2 (upd H2 a (.tup [.int (x : Int)])) := .new ha
      exact k a [x] _ upd_same (Nat.le_refl _) (by show 1 ≤ 3; decide) (fun y hy => by rw [List.mem_singleton.mp hy]; exact ⟨h1, h4⟩) (((f1.trans fl).trans f2).trans fa) (d2.fm (S := Non) (.new ha) id)
    · refine ⟨_, rfl, _, _, rfl, rfl, _, rfl, ?_⟩
      refine ite2 (fun _ => ?_) (fun _ => ?_)
      · refine ⟨_, rfl, D, 3, rfl, d1, by decide, fun r2 H2 hr2 f2 d2 => ⟨_, _, rfl, rfl, _, rfl, D, 3, rfl, d2, by decide, fun r3 H3 hr3 f3 d3 => ⟨_, _, rfl, rfl, by show 2 ≤ sizeLine; decide, fun a ha => ?_⟩⟩⟩
        have fa : Fm (isD D) H3 (upd H3 a (.tup (nV [1 + r2, 1 + r3]))) := .new ha
        have := k a [1 + r2, 1 + r3] _ upd_same (by show 1 ≤ 2; decide) (by show 2 ≤ 3; decide) (fun y hy => by simp at hy; omega) (((f1.trans f2).trans f3).trans fa) (d3.fm (S := Non) (.new ha) id)
        simpa [nV] using this
      · refine ⟨_, rfl, D, 2, rfl, d1, by decide, fun r2 H2 hr2 f2 d2 => ⟨_, _, rfl, rfl, _, rfl, D, 2, rfl, d2, by decide, fun r3 H3 hr3 f3 d3 => ⟨_, _, rfl, rfl, _, rfl, D, 2, rfl, d3, by decide, fun r4 H4 hr4 f4 d4 => ⟨_, _, rfl, rfl, by show 3 ≤ sizeLine; decide, fun a ha => ?_⟩⟩⟩⟩
        have fa : Fm (isD D) H4 (upd H4 a (.tup (nV [1 + r2, 1 + r3, 1 + r4]))) := .new ha
        have := k a [1 + r2, 1 + r3, 1 + r4] _ upd_same (by show 1 ≤ 3; decide) (by show 3 ≤ 3; decide) (fun y hy => by simp at hy; omega) ((((f1.trans f2).trans f3).trans f4).trans fa) (d4.fm (S := Non) (.new ha) id)
        simpa [nV] using this
/-! ### mixed -/
abbrev nMixed : List Str := ["_law_draws_here", "_law_many", "_law_row", "_law_number"]
theorem scMixed : FnScope nMixed ["_law_draws_here", "_law_many"] (defScope sMixed) := ⟨rfl, rfl, rfl, by decide +kernel, rfl, by decide +kernel, by decide +kernel⟩
def spMixed : Sp := fun vs H Q _ => ∃ (D : Addr) (n : Nat), vs = [.ref D, .int (n : Int)] ∧ DrawsAt H D ∧ n ≤ 1000 ∧ ∀ (a : Addr) (l : List Nat) H', H a = none → H' a = some (.lst (nV l)) → l.Perm (List.range n) → Fm (isD D) H H' → DrawsAt H' D → Q (.ref a) H'
theorem ok_mixed {f f1 : Addr} {fd fd1 : FuncData} (F : Fun K "_law_mixed" "_law_mixed" sMixed f fd) (o1 : OTake K mg f1 fd1) (G1 : GTake P w K mg base f1 fd1) (ml : mg "len" = none) (mr : mg "range" = none) : FnOk P w K mg base CX0 2 f fd ["_law_draws_here", "_law_many"] spMixed := by
  refine F.ok scMixed (fun vs H Q E h => ?_) (fun cdv Ar outer sh H vs Q E hr h => ?_)
  · obtain ⟨D, n, rfl, _⟩ := h
    rfl
  · obtain ⟨D, n, rfl, hD, hn, k⟩ := h
    have nd := scMixed.nd
    refine ⟨_, pss_cons (ps_set (i := 2) nd rfl (Or.inl rfl) (pe_lst pa_nil))
      (pss_cons (ps_for PassesOwn.never rfl (pi_range1 rfl mr (pa_cons (pv 1) pa_nil)) (pg_name (i := 3) nd rfl (Or.inl rfl))
        (pss_one (ps_expr (pe_bm PySem.F.plainAttrs_list PySem.F.slot_list_insert PySem.F.type_list_insert mt_insert (pv 2) (pa_cons (pe_call G1 hr rfl o1.mgf o1.kp o1.bd .nil pass0 (pa_cons (pv 0) (pa_cons (pe_op op_add (pe_callB call_len_seq (by rfl) ml PySem.boot_len (pa_cons (pv 2) pa_nil)) pe_int) pa_nil))) (pa_cons (pv 3) pa_nil))))))
      (pss_one (ps_ret (pv 2)))), ?_⟩
    refine ⟨Nat.zero_le _, fun a ha => ?_⟩
    have f1 : Fm (isD D) H (upd H a (.lst [])) := .new ha
    have d1 := hD.fm (S := Non) (H' := upd H a (.lst [])) (.new ha) id
    have naD := hD.ne ha
    refine ⟨_, rfl, n, rfl, by omega, by omega, for_it walk_r0 (fun i σ Hc => ∃ (l : List Nat) (x3 : Option V), σ = [some (.ref D), some (.int (n : Int)), some (.ref a), x3] ∧ Fm (isD D) H Hc ∧ DrawsAt Hc D ∧ Hc a = some (.lst (nV l)) ∧ l.Perm (List.range i)) ?_ ?_ ?_ ?_⟩
    · exact ⟨[], _, rfl, f1, d1, upd_same, .refl _⟩
    · intro _ _ _ _ _; trivial
    · rintro i x σ Hc0 Hc hi ⟨l, x3, rfl, fc, dc, hac, hp⟩ ⟨rfl, rfl⟩
      have hll : l.length = i := by have := hp.length_eq; rwa [List.length_range] at this
      refine ⟨_, rfl, .inl ⟨rfl, _, SqL.of hac⟩, ?_⟩
      refine ⟨_, rfl, _, rfl, a, _, rfl, .inl (.of hac), _, _, rfl, rfl, D, l.length + 1, (by rw [nV_len]; rfl), dc, by omega, fun r H1 hr1 f1' d1' => ?_⟩
      have hac1 := f1'.ob _ _ hac naD
      refine ⟨_, rfl, a, _, _, _, rfl, rfl, hac1, by rw [nV_len, sizeLine_eq]; omega, by omega, by omega, ?_⟩
      have e : (nV l).take (r : Int).toNat ++ [V.int (i : Int)] ++ (nV l).drop (r : Int).toNat = nV (l.take r ++ [i] ++ l.drop r) := by
        simp [nV, List.map_take, List.map_drop]
      refine ⟨l.take r ++ [i] ++ l.drop r, _, rfl, (fc.trans f1').step (Fm.mut (S := fun x => x = a) hac1 (fun _ => lst_ne) rfl) fun x hx => .inr (by rw [hx]; exact ha), d1'.fm (S := fun x => x = a) (.mut hac1 (fun _ => lst_ne) rfl) naD.symm, by rw [upd_same, e], ?_⟩
      rw [List.range_succ]
      have : (l.take r ++ [i] ++ l.drop r).Perm (l ++ [i]) := by
        have h1 : (l.take r ++ [i] ++ l.drop r).Perm (l.take r ++ l.drop r ++ [i]) := by
          rw [List.append_assoc, List.append_assoc]
          exact List.Perm.append_left _ List.perm_append_comm
        rwa [List.take_append_drop] at h1
      exact this.trans (hp.append_right _)
    · rintro σ Hc ⟨l, x3, rfl, fc, dc, hac, hp⟩
      exact ⟨_, rfl, k a l Hc ha hac hp fc dc⟩
/-! ### columns -/
abbrev nCols : List Str := ["_law_draws_here", "_law_width", "_law_column"]
theorem scCols : FnScope nCols ["_law_draws_here", "_law_width"] (defScope sColumns) := ⟨rfl, rfl, rfl, by decide +kernel, rfl, by decide +kernel, by decide +kernel⟩
def spCols : Sp := fun vs H Q _ => ∃ (D : Addr) (n : Nat), vs = [.ref D, .int (n : Int)] ∧ DrawsAt H D ∧ n ≤ 100 ∧ ∀ (a : Addr) (l : List Nat) H', Tu H' a (nV l) → (∀ c ∈ l, c < n) → l.length ≤ n → Fm (isD D) H H' → DrawsAt H' D → Q (.ref a) H'
theorem ok_cols {f f1 : Addr} {fd fd1 : FuncData} (F : Fun K "_law_columns" "_law_columns" sColumns f fd) (o1 : OTake K mg f1 fd1) (G1 : GTake P w K mg base f1 fd1) (mt : mg "tuple" = none) (mr : mg "range" = none) : FnOk P w K mg base CX0 2 f fd ["_law_draws_here", "_law_width"] spCols := by
  refine F.ok scCols (fun vs H Q E h => ?_) (fun cdv Ar outer sh H vs Q E hr h => ?_)
  · obtain ⟨D, n, rfl, _⟩ := h
    rfl
  · obtain ⟨D, n, rfl, hD, hn, k⟩ := h
    have nd := scCols.nd
    refine ⟨_, pss_one (ps_ret (pe_callTy cr_tup rfl mt (by rfl) (pa_cons (pe_lc (own := [("_law_column", 2)]) (g := gName 2) (tt := tTest (tOp rEq (tCall spTake [] (fun _ _ _ => False) (tCons (tVar 0) (tCons (tC (.int 2)) tNil))) (tC (.int 0)))) rfl nd (pi_range1 rfl mr (pa_cons (pv 1) pa_nil)) (blkOk_by (N := nCols) (sc := defScope sColumns) (by decide +kernel)) (fun _ _ _ _ _ => pg_name (i := 2) nd rfl (Or.inl rfl))
      (fun _ _ _ _ _ => pts_one (pt_cmpR op_eq (pe_call G1 hr rfl o1.mgf o1.kp o1.bd .nil pass0 (pa_cons (pv 0) (pa_cons pe_int pa_nil))) pe_int (nomark _))) (fun _ _ _ _ _ => pv 2)) pa_nil))), ?_⟩
    refine ⟨_, rfl, n, rfl, by omega, by omega, fun L hL => ?_⟩
    have nLD := hD.ne hL
    refine lc_accG (walk_r0 (n := n)) (S := isD D) (fun i acc H' => ∃ cs : List Nat, acc = nV cs ∧ (∀ c ∈ cs, c < i) ∧ cs.length ≤ i ∧ DrawsAt H' D) (by omega) hL nLD (fun _ _ => trivial) (fun i acc H2 H3 ⟨cs, h1, h2, h3, h4⟩ f => ⟨cs, h1, h2, h3, h4.fm f nLD.symm⟩) ⟨[], rfl, fun c hc => by simp at hc, Nat.le_refl _, hD⟩ ?_ ?_
    · rintro i x acc H2 H3 hi f ⟨cs, rfl, h2, h3, h4⟩ _ ⟨rfl, rfl⟩ Qt Qf kt kf
      refine ⟨rfl, _, rfl, D, 2, rfl, h4, by decide, fun r H4 hr4 f4 d4 => ⟨rfl, _, rfl, ?_⟩⟩
      refine ite2 (fun _ => ?_) (fun _ => ?_)
      · refine ⟨_, rfl, kt _ _ f4 ⟨cs ++ [i], by simp [nV], fun c hc => ?_, by simp; omega, d4⟩⟩
        rcases List.mem_append.mp hc with hc | hc
        · have := h2 c hc; omega
        · rw [List.mem_singleton.mp hc]; omega
      · exact kf _ f4 ⟨cs, rfl, fun c hc => by have := h2 c hc; omega, by omega, d4⟩
    · rintro acc H2 f hl hd ⟨cs, rfl, h2, h3, h4⟩
      refine ⟨L, _, rfl, .inl ⟨.of hd, fun a ha => ?_⟩⟩
      exact k a cs _ upd_same h2 h3 (f.trans (.new ha)) (h4.fm (S := Non) (.new ha) id)
/-! ### most -/
abbrev nMost : List Str := ["_law_width", "_law_many"]
theorem scMost : FnScope nMost ["_law_width", "_law_many"] (defScope sMost) := ⟨rfl, rfl, rfl, by decide +kernel, rfl, by decide +kernel, by decide +kernel⟩
def spMost : Sp := fun vs H Q _ => ∃ (n m : Nat), vs = [.int (n : Int), .int (m : Int)] ∧ m ≠ 3 ∧ Q (.int (m : Int)) H
theorem ok_most {f : Addr} {fd : FuncData} (F : Fun K "_law_most" "_law_most" sMost f fd) : FnOk P w K mg base CX0 1 f fd ["_law_width", "_law_many"] spMost := by
  refine F.ok scMost (fun vs H Q E h => ?_) (fun cdv Ar outer sh H vs Q E hr h => ?_)
  · obtain ⟨n, m, rfl, _⟩ := h
    rfl
  · obtain ⟨n, m, rfl, hm, k⟩ := h
    refine ⟨_, pss_cons (ps_if (PW.pt (pw_and (pt_cmpR op_gt (pv 0) pe_int (nomark _)) (pw_and1 (pt_cmpR op_eq (pv 1) pe_int (nomark _))))) (pss_one (ps_ret pe_int)) pss_nil) (pss_one (ps_ret (pv 1))), ?_⟩
    refine ⟨_, rfl, _, _, rfl, rfl, _, rfl, ?_⟩
    refine ite2 (fun _ => ?_) (fun _ => ?_)
    · refine ⟨_, rfl, rfl, _, rfl, ?_⟩
      refine ite2 (fun h => ?_) (fun _ => ⟨_, rfl, k⟩)
      exact absurd (show m = 3 by have : (m : Int) = 3 := by simpa using h
                                  omega) hm
    · exact iteF ⟨_, rfl, k⟩
end
end Nor
end
section
/-! parts, in_table, inclusion, dependency, book. -/
namespace Nor
open PySem L2 L2.NW
def rLenQ (K : PySem.W.Frag) : List V → Hp → VK → Prop := fun xs H Q => ∃ p ys, xs = [.ref p] ∧ (SqL K H p ys ∨ SqT K H p ys) ∧ Q (.int ys.length) H
theorem cr_lenQ {X : Cx} : CallR X (.builtin "len") (rLenQ X.K) := call_len_seq
section
variable {P : Program} {w : World} {K : PySem.W.Frag} {mg : Str → Option Value} {base : Heap} {H H' : Hp}
abbrev nParts : List Str := ["_law_draws_here", "_law_width", "_law_k", "_law_parts_here", "_law_column", "_law_first", "_law_part"]
theorem scParts : FnScope nParts ["_law_draws_here", "_law_width"] (defScope sParts) := ⟨rfl, rfl, rfl, by decide +kernel, rfl, by decide +kernel, by decide +kernel⟩
def spParts : Sp := fun vs H Q _ => ∃ (D : Addr) (n : Nat), vs = [.ref D, .int (n : Int)] ∧ DrawsAt H D ∧ 1 ≤ n ∧ n ≤ 90 ∧ ∀ (a : Addr) (ps : List (List Nat)) H', PartsAt H' a ps → ps ≠ [] → ps.length ≤ 3 → (∀ p ∈ ps, ∀ c ∈ p, c < n) → (∀ p ∈ ps, p.length ≤ 100) → (∀ c, c < n → ∃ p ∈ ps, c ∈ p) → Fm (isD D) H H' → DrawsAt H' D → Q (.ref a) H'
/-- lists of columns -/
def ListsAt (H : Hp) (els : List Addr) (Ps : List (List Nat)) : Prop := Paired (fun e p => H e = some (.lst (nV p))) els Ps
theorem ListsAt.fm {S : Addr → Prop} {H H' : Hp} : ∀ {els : List Addr} {Ps : List (List Nat)}, ListsAt H els Ps → Fm S H H' → (∀ e ∈ els, ¬ S e) → ListsAt H' els Ps := by
  intro els Ps h f
  induction h with
  | nil => intro _; exact .nil
  | cons h t ih => intro hn; exact .cons (f.ob _ _ h (hn _ List.mem_cons_self)) (ih fun e he => hn e (List.mem_cons_of_mem _ he))
theorem ListsAt.set {H : Hp} {els : List Addr} {Ps : List (List Nat)} {k : Nat} {e : Addr} {p : List Nat} (h : ListsAt H els Ps) (nd : els.Nodup) (he : els[k]? = some e) : ListsAt (upd H e (.lst (nV p))) els (Ps.set k p) := by
  obtain ⟨h1, h2⟩ := paired_iff.mp h
  refine paired_iff.mpr ⟨by simp [h1], fun i a b ha hb => ?_⟩
  by_cases e0 : i = k
  · subst e0
    rw [List.getElem?_set_self (by rw [← h1]; exact (List.getElem?_eq_some_iff.mp he).1)] at hb
    rw [he] at ha
    rw [← Option.some.inj ha, ← Option.some.inj hb, upd_same]
  · rw [List.getElem?_set_ne (Ne.symm e0)] at hb
    rw [upd_ne (fun z => e0 (nodup_idx nd (by rw [z] at ha; exact ha) he))]
    exact h2 i a b ha hb
theorem ok_parts {f f1 : Addr} {fd fd1 : FuncData} (F : Fun K "_law_parts" "_law_parts" sParts f fd) (o1 : OTake K mg f1 fd1) (G1 : GTake P w K mg base f1 fd1) (mt : mg "tuple" = none) (mr : mg "range" = none) (ml : mg "len" = none) : FnOk P w K mg base CX0 2 f fd ["_law_draws_here", "_law_width"] spParts := by
  refine F.ok scParts (fun vs H Q E h => ?_) (fun cdv Ar outer sh H vs Q E hr h => ?_)
  · obtain ⟨D, n, rfl, _⟩ := h
    rfl
  · obtain ⟨D, n, rfl, hD, hn1, hn, k⟩ := h
    have nd := scParts.nd
    refine ⟨_, pss_cons (ps_setLc (i := 3) (own := [("_law_k", 2)]) (g := gName 2) (tt := tYes) rfl nd rfl rfl (sw_true rfl rfl rfl (by decide +kernel)) (pi_range1 rfl mr (pa_cons (pe_op op_add pe_int (pe_call G1 hr rfl o1.mgf o1.kp o1.bd .nil pass0 (pa_cons (pv 0) (pa_cons pe_int pa_nil)))) pa_nil)) (blkOk_by (N := nParts) (sc := defScope sParts) (by decide +kernel)) (fun _ _ _ _ _ => pg_name (i := 2) nd rfl (Or.inl rfl)) (fun _ _ _ _ _ => pts_nil) (fun _ _ _ _ _ => pe_lst pa_nil))
      (pss_cons (ps_for PassesOwn.never rfl (pi_range1 rfl mr (pa_cons (pv 1) pa_nil)) (pg_name (i := 4) nd rfl (Or.inl rfl))
        (pss_cons (ps_set (i := 5) nd rfl (Or.inl rfl) (pe_call G1 hr rfl o1.mgf o1.kp o1.bd .nil pass0 (pa_cons (pv 0) (pa_cons (pe_callB cr_lenQ (by rfl) ml PySem.boot_len (pa_cons (pv 3) pa_nil)) pa_nil))))
        (pss_one (ps_for PassesOwn.never rfl (pi_range1 rfl mr (pa_cons (pe_callB cr_lenQ (by rfl) ml PySem.boot_len (pa_cons (pv 3) pa_nil)) pa_nil)) (pg_name (i := 2) nd rfl (Or.inl rfl))
          (pss_one (ps_if (PW.pt (pw_or (pt_cmpR op_eq (pv 2) (pv 5) (nomark _)) (pw_or1 (pt_cmpR op_eq (pe_call G1 hr rfl o1.mgf o1.kp o1.bd .nil pass0 (pa_cons (pv 0) (pa_cons pe_int pa_nil))) pe_int (nomark _)))))
            (pss_one (ps_expr (pe_bm PySem.F.plainAttrs_list PySem.F.slot_list_append PySem.F.type_list_append mt_append (pe_ix ix_list (pv 3) (pv 2) (fun _ _ => rfl)) (pa_cons (pv 4) pa_nil)))) pss_nil))))))
      (pss_one (ps_ret (pe_callTy cr_tup rfl mt (by rfl) (pa_cons (pe_lc (own := [("_law_part", 6)]) (g := gName 6) (tt := tTest (tOp (rI0 fun i j => .bl (decide (j < i))) (tCB (rLenQ K) (tCons (tVar 6) tNil)) (tC (.int 0)))) rfl nd (pi_list (pv 3)) (blkOk_by (N := nParts) (sc := defScope sParts) (by decide +kernel)) (fun _ _ _ _ _ => pg_name (i := 6) nd rfl (Or.inl rfl))
        (fun _ _ _ _ _ => pts_one (pt_cmpR op_gt (pe_callB (r := rLenQ K) cr_lenQ (by rfl) ml PySem.boot_len (pa_cons (pv 6) pa_nil)) pe_int (nomark _))) (fun _ _ _ _ _ => pe_callTy (r := rTup K) cr_tup rfl mt (by rfl) (pa_cons (pv 6) pa_nil))) pa_nil))))), ?_⟩
    -- parts_here
    refine ⟨_, rfl, D, 2, rfl, hD, by decide, fun r H1 hr1 f1 d1 => ⟨_, _, rfl, rfl, (2 + r : Nat), by simp, by omega, by omega, fun L hL => ?_⟩⟩
    have nLD := d1.ne hL
    refine lc_accG (walk_r0 (n := 2 + r)) (S := Non) (fun i acc H' => ∃ els : List Addr, acc = els.map V.ref ∧ els.length = i ∧ els.Nodup ∧ (∀ e ∈ els, H1 e = none ∧ e ≠ L) ∧ ListsAt H' els (List.replicate i [])) (by omega) hL id (fun _ _ => trivial) (fun i acc H2 H3 ⟨els, h1, h2, h3, h4, h5⟩ f => ⟨els, h1, h2, h3, h4, h5.fm f fun e he => (h4 e he).2⟩) ⟨[], rfl, rfl, List.nodup_nil, fun e he => by simp at he, .nil⟩ ?_ ?_
    · rintro i x acc H2 H3 hi f ⟨els, rfl, h2, h3, h4, h5⟩ hLo ⟨rfl, rfl⟩ Qt Qf kt kf
      refine ⟨rfl, Nat.zero_le _, fun e he => ?_⟩
      have fe : Fm Non H3 (upd H3 e (.lst [])) := .new he
      refine kt _ _ fe ⟨els ++ [e], by simp, by simp [h2], ?_, fun e' he' => ?_, ?_⟩
      · rw [List.nodup_append]
        refine ⟨h3, by simp, fun x hx y hy ee => ?_⟩
        rw [List.mem_singleton.mp hy] at ee
        subst ee
        obtain ⟨i', hi'⟩ := List.getElem?_of_mem hx
        obtain ⟨_, _, z⟩ := paired_at h5 hi'
        exact ne_of_none z he rfl
      · rcases List.mem_append.mp he' with he' | he'
        · exact h4 e' he'
        · rw [List.mem_singleton.mp he']
          exact ⟨f.tr _ he, (ne_of_none hLo he).symm⟩
      · rw [List.replicate_succ']
        exact Paired.snoc (h5.fm fe fun _ _ => id) upd_same
    · rintro acc H2 f2 hl2 hL2 ⟨els, rfl, hel, hend, hefr, hls⟩
      have fH2 := f1.trans (f2.weak fun _ z => z.elim)
      have d2 := d1.fm f2 id
      have neD : ∀ e ∈ els, e ≠ D := fun e he z => by obtain ⟨ns, g, _⟩ := d1; rw [← z, (hefr e he).1] at g; cases g
      have neL : ∀ e ∈ els, e ≠ L := fun e he => (hefr e he).2
      have hLH : H L = none := f1.tr _ hL
      have heH : ∀ e ∈ els, H e = none := fun e he => f1.tr _ (hefr e he).1
      -- for column in range(width)
      refine ⟨_, rfl, n, rfl, by omega, by omega, for_it walk_r0 (fun i σ Hc => ∃ (Ps : List (List Nat)) (x2 x4 x5 : Option V), σ = [some (.ref D), some (.int (n : Int)), x2, some (.ref L), x4, x5, none] ∧ Fm (fun x => x = D ∨ x ∈ els) H2 Hc ∧ DrawsAt Hc D ∧ ListsAt Hc els Ps ∧ (∀ p ∈ Ps, (∀ c ∈ p, c < i) ∧ p.length ≤ i) ∧ ∀ c, c < i → ∃ p ∈ Ps, c ∈ p) ?_ ?_ ?_ ?_⟩
      · exact ⟨_, _, _, _, rfl, .refl, d2, hls, fun p hp => by rw [(List.mem_replicate.mp hp).2]; simp, fun c hc => by omega⟩
      · intro _ _ _ _ _; trivial
      · rintro i x σ Hc0 Hc hi ⟨Ps, x2, x4, x5, rfl, fc, dc, hlc, hps, hcov⟩ ⟨rfl, rfl⟩
        have hPl : Ps.length = 2 + r := by rw [← Paired.length hlc]; exact hel
        have hLc := fc.ob _ _ hL2 (by rintro (z | z); exact nLD z; exact neL L z rfl)
        refine ⟨_, rfl, _, rfl, L, _, rfl, .inl (.of hLc), D, els.length, (by rw [List.length_map]; rfl), dc, by omega, fun g Hd hg fd dd => ?_⟩
        have fcd : Fm (fun x => x = D ∨ x ∈ els) H2 Hd := fc.trans (fd.weak fun _ z => .inl z)
        have hLd := fcd.ob _ _ hL2 (by rintro (z | z); exact nLD z; exact neL L z rfl)
        refine ⟨_, rfl, L, _, rfl, .inl (.of hLd), els.length, (by rw [List.length_map]), by omega, by omega, for_it walk_r0 (fun j σ He => ∃ (Ps : List (List Nat)) (x2 : Option V), σ = [some (.ref D), some (.int (n : Int)), x2, some (.ref L), some (.int (i : Int)), some (.int (g : Int)), none] ∧ Fm (fun x => x = D ∨ x ∈ els) H2 He ∧ DrawsAt He D ∧ ListsAt He els Ps ∧
          (∀ (k' : Nat) p, Ps[k']? = some p → (∀ c ∈ p, c < i + 1) ∧ p.length ≤ i + (if k' < j then 1 else 0)) ∧ (∀ c, c < i → ∃ p ∈ Ps, c ∈ p) ∧ (g < j → ∃ p ∈ Ps, i ∈ p)) ?_ ?_ ?_ ?_⟩
        · refine ⟨Ps, _, rfl, fcd, dd, hlc.fm fd neD, fun k' p hp => ?_, hcov, fun h => by omega⟩
          have := hps p (List.mem_of_getElem? hp)
          exact ⟨fun c hc => by have := this.1 c hc; omega, by simp; omega⟩
        · intro _ _ _ _ _; trivial
        · rintro j x σ He0 He hj ⟨Ps, x2, rfl, fe, de, hle, hpe, hcv, hgi⟩ ⟨rfl, rfl⟩
          obtain ⟨e, hje⟩ : ∃ e, els[j]? = some e := ⟨_, List.getElem?_eq_getElem (by omega)⟩
          obtain ⟨p, hjp, hpo⟩ := paired_at hle hje
          have hem := List.mem_of_getElem? hje
          -- the append
          have app : ∀ (Hx : Hp), Fm (fun x => x = D ∨ x ∈ els) H2 Hx → DrawsAt Hx D → ListsAt Hx els Ps → ∃ Ps', Fm (fun x => x = D ∨ x ∈ els) H2 (upd Hx e (.lst (nV p ++ [.int (i : Int)]))) ∧ DrawsAt (upd Hx e (.lst (nV p ++ [.int (i : Int)]))) D ∧ ListsAt (upd Hx e (.lst (nV p ++ [.int (i : Int)]))) els Ps' ∧
              (∀ (k' : Nat) p, Ps'[k']? = some p → (∀ c ∈ p, c < i + 1) ∧ p.length ≤ i + (if k' < j + 1 then 1 else 0)) ∧ (∀ c, c < i → ∃ p ∈ Ps', c ∈ p) ∧ ∃ p ∈ Ps', i ∈ p := by
            intro Hx fx dx lx
            obtain ⟨p', hp', hpx⟩ := paired_at lx hje
            rw [hjp] at hp'
            have := Option.some.inj hp'
            subst this
            have e1 : nV p ++ [V.int (i : Int)] = nV (p ++ [i]) := by simp [nV]
            rw [e1]
            have hjl : j < Ps.length := (List.getElem?_eq_some_iff.mp hjp).1
            have hin : p ++ [i] ∈ Ps.set j (p ++ [i]) := List.mem_of_getElem? (i := j) (List.getElem?_set_self hjl)
            refine ⟨Ps.set j (p ++ [i]), fx.trans (.mut hpx (fun _ => lst_ne) (.inr hem)), dx.fm (S := fun x => x = e) (.mut hpx (fun _ => lst_ne) rfl) (neD e hem).symm, lx.set hend hje, fun k' p2 hp2 => ?_, fun c hc => ?_, p ++ [i], hin, by simp⟩
            · by_cases ek : k' = j
              · subst ek
                rw [List.getElem?_set_self hjl] at hp2
                rw [← Option.some.inj hp2]
                have := hpe k' p hjp
                refine ⟨fun c hc => ?_, ?_⟩
                · rcases List.mem_append.mp hc with hc | hc
                  · exact this.1 c hc
                  · rw [List.mem_singleton.mp hc]; omega
                · have h2 := this.2
                  rw [if_neg (by omega)] at h2
                  rw [if_pos (by omega), List.length_append, List.length_singleton]
                  omega
              · rw [List.getElem?_set_ne (Ne.symm ek)] at hp2
                have := hpe k' p2 hp2
                refine ⟨this.1, Nat.le_trans this.2 ?_⟩
                split <;> split <;> omega
            · obtain ⟨p2, hp2, hc2⟩ := hcv c hc
              obtain ⟨k2, hk2⟩ := List.getElem?_of_mem hp2
              by_cases ek : k2 = j
              · subst ek
                rw [hjp] at hk2
                rw [← Option.some.inj hk2] at hc2
                exact ⟨p ++ [i], hin, List.mem_append_left _ hc2⟩
              · exact ⟨p2, List.mem_of_getElem? (i := k2) (by rw [List.getElem?_set_ne (Ne.symm ek)]; exact hk2), hc2⟩
          have plen : ∀ {Hx : Hp}, (nV p).length < sizeLine := by
            have := (hpe j p hjp).2
            rw [nV_len, sizeLine_eq]
            split at this <;> omega
          refine ⟨_, rfl, _, rfl, rfl, _, rfl, ?_⟩
          refine ite2 (fun hc => ?_) (fun hc => ?_)
          · have hLe := fe.ob _ _ hL2 (by rintro (z | z); exact nLD z; exact neL L z rfl)
            refine iteT ⟨_, rfl, _, rfl, L, _, _, V.ref e, rfl, rfl, .of hLe, atI_nat (v := V.ref e) (by rw [List.getElem?_map, hje]; rfl), .inl ⟨rfl, _, SqL.of hpo⟩, _, rfl, e, _, _, rfl, rfl, hpo, plen (Hx := He), ?_⟩
            obtain ⟨Ps', a1, a2, a3, a4, a5, a6⟩ := app He fe de hle
            exact ⟨Ps', _, rfl, a1, a2, a3, a4, a5, fun _ => a6⟩
          · have hgj : ¬ j = g := fun z => by subst z; simp at hc
            refine ⟨_, rfl, D, 3, rfl, de, by decide, fun q Hf hq ff df => ⟨rfl, _, rfl, ?_⟩⟩
            have fef : Fm (fun x => x = D ∨ x ∈ els) H2 Hf := fe.trans (ff.weak fun _ z => .inl z)
            have hlf := hle.fm ff neD
            refine ite2 (fun _ => ?_) (fun _ => ?_)
            · have hLf := fef.ob _ _ hL2 (by rintro (z | z); exact nLD z; exact neL L z rfl)
              have hpf := ff.ob _ _ hpo (neD e hem)
              refine ⟨_, rfl, _, rfl, L, _, _, V.ref e, rfl, rfl, .of hLf, atI_nat (v := V.ref e) (by rw [List.getElem?_map, hje]; rfl), .inl ⟨rfl, _, SqL.of hpf⟩, _, rfl, e, _, _, rfl, rfl, hpf, plen (Hx := He), ?_⟩
              obtain ⟨Ps', a1, a2, a3, a4, a5, a6⟩ := app Hf fef df hlf
              exact ⟨Ps', _, rfl, a1, a2, a3, a4, a5, fun _ => a6⟩
            · refine ⟨Ps, _, rfl, fef, df, hlf, fun k' p2 hp2 => ?_, hcv, fun h => hgi (by omega)⟩
              have := hpe k' p2 hp2
              refine ⟨this.1, Nat.le_trans this.2 ?_⟩
              split <;> split <;> omega
        · rintro σ He ⟨Ps, x2, rfl, fe, de, hle, hpe, hcv, hgi⟩
          refine ⟨Ps, _, _, _, rfl, fe, de, hle, fun p hp => ?_, fun c hc => ?_⟩
          · obtain ⟨k', hk'⟩ := List.getElem?_of_mem hp
            have := hpe k' p hk'
            refine ⟨this.1, Nat.le_trans this.2 ?_⟩
            split <;> omega
          · rcases Nat.lt_succ_iff_lt_or_eq.mp hc with h | rfl
            · exact hcv c h
            · exact hgi hg
      · rintro σ Hc ⟨Ps, x2, x4, x5, rfl, fc, dc, hlc, hps, hcov⟩
        have hPl : Ps.length = 2 + r := by rw [← Paired.length hlc]; exact hel
        have hLc := fc.ob _ _ hL2 (by rintro (z | z); exact nLD z; exact neL L z rfl)
        have fHc : Fm (isD D) H Hc := fH2.step fc fun x hx => hx.elim .inl fun hx => .inr (heH x hx)
        refine ⟨_, rfl, L, rfl, ⟨_, .of hLc⟩, fun B hB => ?_⟩
        refine lc_accG (walk_list (K := K) (xs := els.map V.ref)) (S := Non) (fun i acc H' => ∃ ts : List Addr, acc = ts.map V.ref ∧ Paired (fun e p => Tu H' e (nV p)) ts ((Ps.take i).filter fun p => decide (0 < p.length))) (by rw [List.length_map]; omega) hB id (fun H' f => .of (f.ob _ _ hLc id)) (fun i acc H2 H3 ⟨ts, h1, h2⟩ f => ⟨ts, h1, paired_map h2 fun _ _ z => f.tk _ _ z⟩) ⟨[], rfl, .nil⟩ ?_ ?_
        · rintro i x acc H3 H4 hi f ⟨ts, rfl, h2⟩ _ ⟨rfl, hx⟩ Qt Qf kt kf
          obtain ⟨e, he, rfl⟩ := map_at hx
          obtain ⟨p, hp, hpo⟩ := paired_at hlc he
          have hpo' := f.ob _ _ hpo id
          rw [List.take_add_one, hp] at kt kf
          refine ⟨rfl, _, rfl, e, _, rfl, .inl (.of hpo'), _, _, rfl, rfl, _, rfl, ?_⟩
          refine ite2 (fun hc => ?_) (fun hc => ?_)
          · have hc : 0 < p.length := by
              have : (0 : Int) < ((nV p).length : Int) := by simpa using hc
              rw [nV_len] at this; omega
            refine ⟨_, rfl, e, _, rfl, .inl ⟨.of hpo', fun t ht => ?_⟩⟩
            have ft : Fm Non H4 (upd H4 t (.tup (nV p))) := .new ht
            refine kt _ _ ft ⟨ts ++ [t], by simp, ?_⟩
            have e1 : ((Ps.take i ++ (some p).toList).filter fun p => decide (0 < p.length)) = ((Ps.take i).filter fun p => decide (0 < p.length)) ++ [p] := by
              rw [List.filter_append]; simp [hc]
            rw [e1]
            exact Paired.snoc (paired_map h2 fun _ _ z => ft.tk _ _ z) upd_same
          · have hc : ¬ 0 < p.length := by
              intro h; apply hc
              have : (0 : Int) < ((nV p).length : Int) := by rw [nV_len]; omega
              simpa using this
            refine kf _ .refl ⟨ts, rfl, ?_⟩
            have e1 : ((Ps.take i ++ (some p).toList).filter fun p => decide (0 < p.length)) = (Ps.take i).filter fun p => decide (0 < p.length) := by
              rw [List.filter_append]
              have : ([p].filter fun p => decide (0 < p.length)) = [] := by simp; simpa using hc
              show _ ++ ([p].filter _) = _
              rw [this, List.append_nil]
            rw [e1]
            exact h2
        · rintro acc H3 f hl hd ⟨ts, rfl, h2⟩
          rw [List.length_map, hel, ← hPl, List.take_length] at h2
          refine ⟨B, _, rfl, .inl ⟨.of hd, fun a ha => ?_⟩⟩
          have fa : Fm Non H3 (upd H3 a (.tup (ts.map V.ref))) := .new ha
          have mem : ∀ p, p ∈ (Ps.filter fun p => decide (0 < p.length)) → p ∈ Ps := fun p hp => (List.mem_filter.mp hp).1
          have cov : ∀ c, c < n → ∃ p ∈ (Ps.filter fun p => decide (0 < p.length)), c ∈ p := fun c hc => by
            obtain ⟨p, hp, hcp⟩ := hcov c hc
            exact ⟨p, List.mem_filter.mpr ⟨hp, decide_eq_true (List.length_pos_of_mem hcp)⟩, hcp⟩
          refine k a (Ps.filter fun p => decide (0 < p.length)) _ ⟨ts, upd_same, paired_map h2 fun _ _ z => fa.tk _ _ z⟩ (fun z => ?_) ?_ (fun p hp => (hps p (mem p hp)).1) (fun p hp => by have := (hps p (mem p hp)).2; have h : (n : Int).toNat = n := rfl; omega) cov (fHc.trans ((f.trans fa).weak fun _ z => z.elim)) (dc.fm (f.trans fa) id)
          · obtain ⟨p, hp, _⟩ := cov 0 (by omega)
            rw [z] at hp; cases hp
          · have := List.length_filter_le (fun p : List Nat => decide (0 < p.length)) Ps
            omega
end
end Nor
end
section
/-! in_table, inclusion, dependency, book. -/
namespace Nor
open PySem L2 L2.NW
def wfOf (ws : List Nat) (t : Nat) : Nat := ws.getD t 0
/-- a scheme -/
structure SchOk (ws : List Nat) : Prop where
  l1 : 1 ≤ ws.length
  l3 : ws.length ≤ 3
  all : ∀ x ∈ ws, 1 ≤ x ∧ x ≤ 4
theorem SchOk.wid {ws : List Nat} (h : SchOk ws) {t : Nat} (ht : t < ws.length) : 1 ≤ wfOf ws t ∧ wfOf ws t ≤ 4 := by
  have : wfOf ws t = ws[t] := by simp [wfOf, ht]
  rw [this]
  exact h.all _ (List.getElem_mem ht)
theorem sch_get {ws : List Nat} {t : Nat} (ht : t < ws.length) : (nV ws)[t]? = some (V.int (wfOf ws t : Int)) := by
  simp [nV, wfOf, ht]
theorem sch_range (ws : List Nat) : nV ws = (List.range ws.length).map fun t => V.int (wfOf ws t : Int) := by
  apply List.ext_getElem (by simp [nV])
  intro i h1 h2
  have hi : i < ws.length := by simpa [nV] using h1
  simp [nV, wfOf, hi]
def DepGood (ws order : List Nat) (d : Dep) : Prop := DepOk ws.length (wfOf ws) d ∧ DepSm d ∧ ∀ t cs o os, d = .within t cs o os → ∃ f s : Nat, order[f]? = some t ∧ order[s]? = some o ∧ f < s
section
variable {P : Program} {w : World} {K : PySem.W.Frag} {mg : Str → Option Value} {base : Heap} {H H' : Hp}
abbrev nInT : List Str := ["_law_draws_here", "_law_scheme_here", "_law_table", "_law_kind", "_law_width"]
theorem scInT : FnScope nInT ["_law_draws_here", "_law_scheme_here", "_law_table"] (defScope sInTable) := ⟨rfl, rfl, rfl, by decide +kernel, rfl, by decide +kernel, by decide +kernel⟩
def spInT : Sp := fun vs H Q _ => ∃ (D sc : Addr) (ws : List Nat) (t : Nat), vs = [.ref D, .ref sc, .int (t : Int)] ∧ DrawsAt H D ∧ Tu H sc (nV ws) ∧ SchOk ws ∧ t < ws.length ∧
  ∀ (a : Addr) (d : Dep) H', DepAt H' a d → DepOk ws.length (wfOf ws) d → DepSm d → ¬ isWithin d → Fm (isD D) H H' → DrawsAt H' D → Q (.ref a) H'
theorem ok_inT {f f1 f2 f3 : Addr} {fd fd1 fd2 fd3 : FuncData} (F : Fun K "_law_in_table" "_law_in_table" sInTable f fd) (o1 : OTake K mg f1 fd1) (G1 : GTake P w K mg base f1 fd1) (o2 : Own K mg "_law_columns" f2 fd2 ["_law_draws_here", "_law_width"]) (G2 : FnOk P w K mg base CX0 2 f2 fd2 ["_law_draws_here", "_law_width"] spCols)
    (o3 : Own K mg "_law_parts" f3 fd3 ["_law_draws_here", "_law_width"]) (G3 : FnOk P w K mg base CX0 2 f3 fd3 ["_law_draws_here", "_law_width"] spParts) : FnOk P w K mg base CX0 3 f fd ["_law_draws_here", "_law_scheme_here", "_law_table"] spInT := by
  refine F.ok scInT (fun vs H Q E h => ?_) (fun cdv Ar outer sh H vs Q E hr h => ?_)
  · obtain ⟨D, sc, ws, t, rfl, _⟩ := h
    rfl
  · obtain ⟨D, sc, ws, t, rfl, hD, hsc, hok, ht, k⟩ := h
    have nd := scInT.nd
    have hr1 : Room 1 _ := hr.mono (by decide)
    have cols : ∀ {X : Cx}, True := fun {_} => trivial
    refine ⟨_, pss_cons (ps_set (i := 3) nd rfl (Or.inl rfl) (pe_call G1 hr1 rfl o1.mgf o1.kp o1.bd .nil pass0 (pa_cons (pv 0) (pa_cons pe_int pa_nil))))
      (pss_cons (ps_set (i := 4) nd rfl (Or.inl rfl) (pe_ix ix_tup (pv 1) (pv 2) (fun _ _ => rfl)))
      (pss_cons (ps_if (pt_cmpR op_lt (pv 3) pe_int (nomark _)) (pss_one (ps_ret (pe_tup (pa_cons pe_str (pa_cons (pv 2) (pa_cons (pe_call G2 hr rfl o2.mgf o2.kp o2.bd .nil pass0 (pa_cons (pv 0) (pa_cons (pv 4) pa_nil))) (pa_cons (pe_call G2 hr rfl o2.mgf o2.kp o2.bd .nil pass0 (pa_cons (pv 0) (pa_cons (pv 4) pa_nil))) pa_nil))))))) pss_nil)
      (pss_cons (ps_if (pt_cmpR op_lt (pv 3) pe_int (nomark _)) (pss_one (ps_ret (pe_tup (pa_cons pe_str (pa_cons (pv 2) (pa_cons (pe_call G2 hr rfl o2.mgf o2.kp o2.bd .nil pass0 (pa_cons (pv 0) (pa_cons (pv 4) pa_nil))) (pa_cons (pe_call G2 hr rfl o2.mgf o2.kp o2.bd .nil pass0 (pa_cons (pv 0) (pa_cons (pv 4) pa_nil))) pa_nil))))))) pss_nil)
      (pss_one (ps_ret (pe_tup (pa_cons pe_str (pa_cons (pv 2) (pa_cons (pe_call G3 hr rfl o3.mgf o3.kp o3.bd .nil pass0 (pa_cons (pv 0) (pa_cons (pv 4) pa_nil))) pa_nil))))))))), ?_⟩
    have wt := hok.wid ht
    refine ⟨_, rfl, D, 6, rfl, hD, by decide, fun r H1 hr1' f1 d1 => ?_⟩
    refine ⟨_, rfl, _, rfl, sc, _, _, _, rfl, rfl, .of (f1.tk _ _ hsc), atI_nat (sch_get ht), ?_⟩
    refine ⟨_, rfl, _, _, rfl, rfl, _, rfl, ?_⟩
    refine ite2 (fun _ => ?_) (fun _ => ?_)
    · refine ⟨_, rfl, _, rfl, _, rfl, D, wfOf ws t, rfl, d1, by omega, fun b1 l H2 h2 hl2 hn2 f2 d2 => ⟨_, rfl, _, rfl, D, wfOf ws t, rfl, d2, by omega, fun b2 r2 H3 h3 hl3 hn3 f3 d3 => ⟨by show 4 ≤ sizeLine; decide, fun a ha => ?_⟩⟩⟩
      have fa : Fm Non H3 (upd H3 a (.tup [.str "settles", .int (t : Int), .ref b1, .ref b2])) := .new ha
      exact k a (.settles t l r2) _ ⟨b1, b2, upd_same, fa.tk _ _ (f3.tk _ _ h2), fa.tk _ _ h3⟩ ⟨ht, hl2, hl3⟩ ⟨by omega, by omega⟩ id (((f1.trans f2).trans f3).trans (fa.weak fun _ z => z.elim)) (d3.fm fa id)
    · refine ⟨_, rfl, _, _, rfl, rfl, _, rfl, ?_⟩
      refine ite2 (fun _ => ?_) (fun _ => ?_)
      · refine ⟨_, rfl, _, rfl, _, rfl, D, wfOf ws t, rfl, d1, by omega, fun b1 l H2 h2 hl2 hn2 f2 d2 => ⟨_, rfl, _, rfl, D, wfOf ws t, rfl, d2, by omega, fun b2 r2 H3 h3 hl3 hn3 f3 d3 => ⟨by show 4 ≤ sizeLine; decide, fun a ha => ?_⟩⟩⟩
        have fa : Fm Non H3 (upd H3 a (.tup [.str "deals", .int (t : Int), .ref b1, .ref b2])) := .new ha
        exact k a (.deals t l r2) _ ⟨b1, b2, upd_same, fa.tk _ _ (f3.tk _ _ h2), fa.tk _ _ h3⟩ ⟨ht, hl2, hl3⟩ ⟨by omega, by omega⟩ id (((f1.trans f2).trans f3).trans (fa.weak fun _ z => z.elim)) (d3.fm fa id)
      · refine ⟨_, rfl, _, rfl, _, rfl, D, wfOf ws t, rfl, d1, wt.1, by omega, fun b1 ps H2 hps h1 h2 h3 h4 h5 f2 d2 => ⟨by show 3 ≤ sizeLine; decide, fun a ha => ?_⟩⟩
        have fa : Fm Non H2 (upd H2 a (.tup [.str "joins", .int (t : Int), .ref b1])) := .new ha
        exact k a (.joins t ps) _ ⟨b1, upd_same, hps.tk fa.tk⟩ ⟨ht, h1, h3, h5⟩ ⟨h2, h4⟩ id ((f1.trans f2).trans (fa.weak fun _ z => z.elim)) (d2.fm fa id)
/-! ### inclusion -/
abbrev nIncl : List Str := ["_law_draws_here", "_law_scheme_here", "_law_order", "_law_first", "_law_second", "_law_table", "_law_other", "_law_many", "_law_columns_here"]
theorem scIncl : FnScope nIncl ["_law_draws_here", "_law_scheme_here", "_law_order"] (defScope sInclusion) := ⟨rfl, rfl, rfl, by decide +kernel, rfl, by decide +kernel, by decide +kernel⟩
/-- the order: a list -/
def OrdAt (H : Hp) (D o : Addr) (order : List Nat) (ws : List Nat) : Prop := H o = some (.lst (nV order)) ∧ o ≠ D ∧ order.Perm (List.range ws.length)
theorem OrdAt.fm {H H' : Hp} {D o : Addr} {order ws : List Nat} (x : OrdAt H D o order ws) (f : Fm (isD D) H H') : OrdAt H' D o order ws := ⟨f.ob _ _ x.1 x.2.1, x.2⟩
theorem OrdAt.len {H : Hp} {D o : Addr} {order ws : List Nat} (x : OrdAt H D o order ws) : order.length = ws.length := by have := x.2.2.length_eq; rwa [List.length_range] at this
def spIncl : Sp := fun vs H Q _ => ∃ (D sc o : Addr) (ws order : List Nat), vs = [.ref D, .ref sc, .ref o] ∧ DrawsAt H D ∧ Tu H sc (nV ws) ∧ SchOk ws ∧ OrdAt H D o order ws ∧ 2 ≤ ws.length ∧
  ∀ (a : Addr) (d : Dep) H', DepAt H' a d → DepGood ws order d → Fm (isD D) H H' → DrawsAt H' D → Q (.ref a) H'
theorem cut_take (l : List Nat) (m : Nat) : cutV (nV l) none (some (m : Int)) = nV (l.take m) := by
  unfold cutV
  rw [HT.sIx_none, HT.sIx_nat, nV_len, List.drop_zero]
  unfold nV
  rw [List.map_take]
  by_cases h : m ≤ l.length
  · rw [Nat.min_eq_left h]; rfl
  · rw [Nat.min_eq_right (by omega), List.take_of_length_le (by simp), List.take_of_length_le (by simp; omega)]
theorem ok_incl {f f1 f2 : Addr} {fd fd1 fd2 : FuncData} (F : Fun K "_law_inclusion" "_law_inclusion" sInclusion f fd) (o1 : OTake K mg f1 fd1) (G1 : GTake P w K mg base f1 fd1) (o2 : Own K mg "_law_mixed" f2 fd2 ["_law_draws_here", "_law_many"]) (G2 : FnOk P w K mg base CX0 2 f2 fd2 ["_law_draws_here", "_law_many"] spMixed)
    (mt : mg "tuple" = none) (ml : mg "len" = none) (mm : mg "min" = none) : FnOk P w K mg base CX0 3 f fd ["_law_draws_here", "_law_scheme_here", "_law_order"] spIncl := by
  refine F.ok scIncl (fun vs H Q E h => ?_) (fun cdv Ar outer sh H vs Q E hr h => ?_)
  · obtain ⟨D, sc, o, ws, order, rfl, _⟩ := h
    rfl
  · obtain ⟨D, sc, o, ws, order, rfl, hD, hsc, hok, ho, h2, k⟩ := h
    have nd := scIncl.nd
    have hr1 : Room 1 _ := hr.mono (by decide)
    refine ⟨_, pss_cons (ps_set (i := 3) nd rfl (Or.inl rfl) (pe_call G1 hr1 rfl o1.mgf o1.kp o1.bd .nil pass0 (pa_cons (pv 0) (pa_cons (pe_op op_sub (pe_callB cr_lenQ (by rfl) ml PySem.boot_len (pa_cons (pv 2) pa_nil)) pe_int) pa_nil))))
      (pss_cons (ps_set (i := 4) nd rfl (Or.inl rfl) (pe_op op_add (pe_op op_add (pv 3) pe_int) (pe_call G1 hr1 rfl o1.mgf o1.kp o1.bd .nil pass0 (pa_cons (pv 0) (pa_cons (pe_op op_sub (pe_op op_sub (pe_callB cr_lenQ (by rfl) ml PySem.boot_len (pa_cons (pv 2) pa_nil)) pe_int) (pv 3)) pa_nil)))))
      (pss_cons (ps_set (i := 5) nd rfl (Or.inl rfl) (pe_ix ix_list (pv 2) (pv 3) (fun _ _ => rfl)))
      (pss_cons (ps_set (i := 6) nd rfl (Or.inl rfl) (pe_ix ix_list (pv 2) (pv 4) (fun _ _ => rfl)))
      (pss_cons (ps_set (i := 7) nd rfl (Or.inl rfl) (pe_op op_add pe_int (pe_call G1 hr1 rfl o1.mgf o1.kp o1.bd .nil pass0 (pa_cons (pv 0) (pa_cons (pe_callB (call_min2 rfl) rfl mm PyProof.Rows.boot_min (pa_cons (pe_ix ix_tup (pv 1) (pv 5) (fun _ _ => rfl)) (pa_cons (pe_ix ix_tup (pv 1) (pv 6) (fun _ _ => rfl)) pa_nil))) pa_nil)))))
      (pss_cons (ps_set (i := 8) nd rfl (Or.inl rfl) (pe_callTy cr_tup rfl mt (by rfl) (pa_cons (pe_slice sl_list (pe_call G2 hr rfl o2.mgf o2.kp o2.bd .nil pass0 (pa_cons (pv 0) (pa_cons (pe_ix ix_tup (pv 1) (pv 5) (fun _ _ => rfl)) pa_nil))) po_none (po_some (pv 7))) pa_nil)))
      (pss_one (ps_ret (pe_tup (pa_cons pe_str (pa_cons (pv 5) (pa_cons (pv 8) (pa_cons (pv 6) (pa_cons (pe_callTy cr_tup rfl mt (by rfl) (pa_cons (pe_slice sl_list (pe_call G2 hr rfl o2.mgf o2.kp o2.bd .nil pass0 (pa_cons (pv 0) (pa_cons (pe_ix ix_tup (pv 1) (pv 6) (fun _ _ => rfl)) pa_nil))) po_none (po_some (pv 7))) pa_nil)) pa_nil))))))))))))), ?_⟩
    have hol := ho.len
    have l3 := hok.l3
    -- first
    refine ⟨_, rfl, _, rfl, o, _, rfl, .inl (.of ho.1), _, _, rfl, rfl, D, order.length - 1, ?_, hD, by omega, fun a H1 ha f1 d1 => ?_⟩
    · show [V.ref D, V.int (((nV order).length : Int) - 1)] = [V.ref D, V.int ((order.length - 1 : Nat) : Int)]
      rw [nV_len, show ((order.length : Nat) : Int) - 1 = ((order.length - 1 : Nat) : Int) by omega]
    -- second
    have ho1 := ho.fm f1
    refine ⟨_, rfl, _, _, rfl, rfl, _, rfl, _, rfl, o, _, rfl, .inl (.of ho1.1), _, _, rfl, rfl, _, rfl, _, _, rfl, rfl, D, order.length - 1 - a, ?_, d1, by omega, fun b H2 hb f2 d2 => ⟨_, _, rfl, rfl, ?_⟩⟩
    · show [V.ref D, V.int (((nV order).length : Int) - 1 - (a : Int))] = [V.ref D, V.int ((order.length - 1 - a : Nat) : Int)]
      rw [nV_len, show ((order.length : Nat) : Int) - 1 - (a : Int) = ((order.length - 1 - a : Nat) : Int) by omega]
    have ho2 := ho1.fm f2
    have hsec : (a : Int) + 1 + (b : Int) = ((a + 1 + b : Nat) : Int) := by omega
    obtain ⟨t, htt⟩ : ∃ t, order[a]? = some t := ⟨_, List.getElem?_eq_getElem (by omega)⟩
    obtain ⟨u, huu⟩ : ∃ u, order[a + 1 + b]? = some u := ⟨_, List.getElem?_eq_getElem (by omega)⟩
    have t_lt : t < ws.length := List.mem_range.mp (ho.2.2.mem_iff.mp (List.mem_of_getElem? htt))
    have u_lt : u < ws.length := List.mem_range.mp (ho.2.2.mem_iff.mp (List.mem_of_getElem? huu))
    have tu : t ≠ u := fun z => by
      have hnd := ho.2.2.nodup_iff.mpr List.nodup_range
      rw [z] at htt
      have := nodup_idx hnd htt huu
      omega
    have gt : (nV order)[a]? = some (.int (t : Int)) := by simp [nV, htt]
    have gu : (nV order)[a + 1 + b]? = some (.int (u : Int)) := by simp [nV, huu]
    have wt := hok.wid t_lt
    have wu := hok.wid u_lt
    refine ⟨_, rfl, _, rfl, o, _, _, _, rfl, rfl, .of ho2.1, atI_nat gt, ?_⟩
    refine ⟨_, rfl, _, rfl, o, _, _, .int (u : Int), rfl, rfl, .of ho2.1, by rw [hsec]; exact atI_nat gu, ?_⟩
    -- many
    have f12 := f1.trans f2
    have s2 := f12.tk _ _ hsc
    refine ⟨_, rfl, _, rfl, _, rfl, sc, _, _, _, rfl, rfl, .of s2, atI_nat (sch_get t_lt), _, rfl, _, rfl, sc, _, _, _, rfl, rfl, .of s2, atI_nat (sch_get u_lt), _, _, rfl, ?_⟩
    have emin : (if ((wfOf ws u : Nat) : Int) < (wfOf ws t : Nat) then ((wfOf ws u : Nat) : Int) else (wfOf ws t : Nat)) = ((min (wfOf ws t) (wfOf ws u) : Nat) : Int) := by
      split <;> omega
    refine ⟨D, min (wfOf ws t) (wfOf ws u), by rw [emin]; rfl, d2, by omega, fun q H3 hq f3 d3 => ⟨_, _, rfl, rfl, ?_⟩⟩
    have f13 := f12.trans f3
    have s3 := f13.tk _ _ hsc
    have em : (1 : Int) + (q : Int) = ((1 + q : Nat) : Int) := by omega
    -- columns
    refine ⟨_, rfl, _, rfl, _, rfl, sc, _, _, _, rfl, rfl, .of s3, atI_nat (sch_get t_lt), D, wfOf ws t, rfl, d3, by omega, fun l1 m1 H4 hl1 hm1 hp1 f4 d4 => ⟨_, rfl, _, rfl, l1, _, rfl, .of hm1, fun c1 hc1 => ?_⟩⟩
    rw [em, cut_take]
    have g1 : Fm Non H4 (upd H4 c1 (.lst (nV (m1.take (1 + q))))) := .new hc1
    refine ⟨c1, _, rfl, .inl ⟨.of upd_same, fun t1 ht1 => ?_⟩⟩
    have g2 : Fm Non _ (upd (upd H4 c1 (.lst (nV (m1.take (1 + q))))) t1 (.tup (nV (m1.take (1 + q))))) := .new ht1
    have g12 := g1.trans g2
    have f14 := (f13.trans f4).trans (g12.weak (S' := isD D) fun _ z => z.elim)
    have d4' := d4.fm g12 id
    have s4 := f14.tk _ _ hsc
    refine ⟨_, rfl, _, rfl, _, rfl, _, rfl, _, rfl, _, rfl, sc, _, _, _, rfl, rfl, .of s4, atI_nat (sch_get u_lt), D, wfOf ws u, rfl, d4', by omega, fun l2 m2 H5 hl2 hm2 hp2 f5 d5 => ⟨_, rfl, _, rfl, l2, _, rfl, .of hm2, fun c2 hc2 => ?_⟩⟩
    rw [em, cut_take]
    have g3 : Fm Non H5 (upd H5 c2 (.lst (nV (m2.take (1 + q))))) := .new hc2
    refine ⟨c2, _, rfl, .inl ⟨.of upd_same, fun t2 ht2 => ?_⟩⟩
    have g4 : Fm Non _ (upd (upd H5 c2 (.lst (nV (m2.take (1 + q))))) t2 (.tup (nV (m2.take (1 + q))))) := .new ht2
    refine ⟨by show 5 ≤ sizeLine; decide, fun r hr' => ?_⟩
    have g5 : Fm Non _ (upd (upd (upd H5 c2 (.lst (nV (m2.take (1 + q))))) t2 (.tup (nV (m2.take (1 + q))))) r (.tup [.str "within", .int (t : Int), .ref t1, .int (u : Int), .ref t2])) := .new hr'
    have g345 := (g3.trans g4).trans g5
    have p1 := hp1.length_eq
    have p2 := hp2.length_eq
    rw [List.length_range] at p1 p2
    refine k r (.within t (m1.take (1 + q)) u (m2.take (1 + q))) _ ⟨t1, t2, upd_same, g345.tk _ _ (f5.tk _ _ upd_same), g5.tk _ _ upd_same⟩ ⟨⟨t_lt, u_lt, tu, by rw [List.length_take, List.length_take]; omega, ?_, fun c hc => ?_, fun c hc => ?_⟩, ⟨by rw [List.length_take]; omega, by rw [List.length_take]; omega⟩, ?_⟩ ((f14.trans f5).trans (g345.weak fun _ z => z.elim)) (d5.fm g345 id)
    · exact (hp2.nodup_iff.mpr List.nodup_range).sublist (List.take_sublist _ _)
    · exact List.mem_range.mp (hp1.mem_iff.mp (List.mem_of_mem_take hc))
    · exact List.mem_range.mp (hp2.mem_iff.mp (List.mem_of_mem_take hc))
    · intro t' cs' o' os' e
      cases e
      exact ⟨a, a + 1 + b, htt, huu, by omega⟩
/-! ### dependency, book -/
abbrev nDep : List Str := ["_law_draws_here", "_law_scheme_here", "_law_order"]
theorem scDep : FnScope nDep ["_law_draws_here", "_law_scheme_here", "_law_order"] (defScope sDependency) := ⟨rfl, rfl, rfl, by decide +kernel, rfl, by decide +kernel, by decide +kernel⟩
def spDep : Sp := fun vs H Q _ => ∃ (D sc o : Addr) (ws order : List Nat), vs = [.ref D, .ref sc, .ref o] ∧ DrawsAt H D ∧ Tu H sc (nV ws) ∧ SchOk ws ∧ OrdAt H D o order ws ∧
  ∀ (a : Addr) (d : Dep) H', DepAt H' a d → DepGood ws order d → Fm (isD D) H H' → DrawsAt H' D → Q (.ref a) H'
theorem ok_dep {f f1 f2 f3 : Addr} {fd fd1 fd2 fd3 : FuncData} (F : Fun K "_law_dependency" "_law_dependency" sDependency f fd) (o1 : OTake K mg f1 fd1) (G1 : GTake P w K mg base f1 fd1) (o2 : Own K mg "_law_inclusion" f2 fd2 ["_law_draws_here", "_law_scheme_here", "_law_order"]) (G2 : FnOk P w K mg base CX0 3 f2 fd2 ["_law_draws_here", "_law_scheme_here", "_law_order"] spIncl)
    (o3 : Own K mg "_law_in_table" f3 fd3 ["_law_draws_here", "_law_scheme_here", "_law_table"]) (G3 : FnOk P w K mg base CX0 3 f3 fd3 ["_law_draws_here", "_law_scheme_here", "_law_table"] spInT) (ml : mg "len" = none) : FnOk P w K mg base CX0 4 f fd ["_law_draws_here", "_law_scheme_here", "_law_order"] spDep := by
  refine F.ok scDep (fun vs H Q E h => ?_) (fun cdv Ar outer sh H vs Q E hr h => ?_)
  · obtain ⟨D, sc, o, ws, order, rfl, _⟩ := h
    rfl
  · obtain ⟨D, sc, o, ws, order, rfl, hD, hsc, hok, ho, k⟩ := h
    have hr1 : Room 1 _ := hr.mono (by decide)
    refine ⟨_, pss_cons (ps_if (PW.pt (pw_and (pt_cmpR op_gt (pe_callB cr_lenQ (by rfl) ml PySem.boot_len (pa_cons (pv 1) pa_nil)) pe_int (nomark _)) (pw_and1 (pt_cmpR op_eq (pe_call G1 hr1 rfl o1.mgf o1.kp o1.bd .nil pass0 (pa_cons (pv 0) (pa_cons pe_int pa_nil))) pe_int (nomark _)))))
        (pss_one (ps_ret (pe_call G2 hr rfl o2.mgf o2.kp o2.bd .nil pass0 (pa_cons (pv 0) (pa_cons (pv 1) (pa_cons (pv 2) pa_nil)))))) pss_nil)
      (pss_one (ps_ret (pe_call G3 hr rfl o3.mgf o3.kp o3.bd .nil pass0 (pa_cons (pv 0) (pa_cons (pv 1) (pa_cons (pe_call G1 hr1 rfl o1.mgf o1.kp o1.bd .nil pass0 (pa_cons (pv 0) (pa_cons (pe_callB cr_lenQ (by rfl) ml PySem.boot_len (pa_cons (pv 1) pa_nil)) pa_nil))) pa_nil)))))), ?_⟩
    have tail : ∀ H1, Fm (isD D) H H1 → DrawsAt H1 D → ∀ Q' : VK, (∀ (a : Addr) (d : Dep) H', DepAt H' a d → DepGood ws order d → Fm (isD D) H H' → DrawsAt H' D → Q' (.ref a) H') →
        spTake [.ref D, .int (ws.length : Int)] H1 (fun v H2 => spInT [.ref D, .ref sc, v] H2 Q' (fun _ _ _ => False)) (fun _ _ _ => False) := by
      intro H1 f1 d1 Q' kk
      refine ⟨D, ws.length, rfl, d1, hok.l1, fun r H2 hr2 f2 d2 => ⟨D, sc, ws, r, rfl, d2, (f1.trans f2).tk _ _ hsc, hok, hr2, fun a d H3 hd h1 h2 h3 f3 d3 => ?_⟩⟩
      refine kk a d H3 hd ⟨h1, h2, fun t cs o os e => ?_⟩ ((f1.trans f2).trans f3) d3
      subst e
      exact absurd True.intro h3
    refine ⟨_, rfl, sc, _, rfl, .inr (.of hsc), _, _, rfl, rfl, _, rfl, ?_⟩
    rw [nV_len]
    refine ite2 (fun h1 => ?_) (fun h1 => ?_)
    · have h1 : 2 ≤ ws.length := by have : (1 : Int) < (ws.length : Int) := by simpa using h1
                                    omega
      refine ⟨_, rfl, D, 2, rfl, hD, by decide, fun r H1 hr1' f1 d1 => ⟨rfl, _, rfl, ?_⟩⟩
      refine ite2 (fun _ => ?_) (fun _ => ?_)
      · refine ⟨_, rfl, _, rfl, _, rfl, D, sc, o, ws, order, rfl, d1, f1.tk _ _ hsc, hok, ho.fm f1, h1, fun a d H2 hd hg f2 d2 => ?_⟩
        exact k a d H2 hd hg (f1.trans f2) d2
      · refine ⟨_, rfl, _, rfl, _, rfl, _, rfl, sc, _, rfl, .inr (.of (f1.tk _ _ hsc)), ?_⟩
        rw [nV_len]
        exact tail H1 f1 d1 Q k
    · refine iteF ⟨_, rfl, _, rfl, _, rfl, _, rfl, sc, _, rfl, .inr (.of hsc), ?_⟩
      rw [nV_len]
      exact tail H .refl hD Q k
abbrev nBook : List Str := ["_law_draws_here", "_law_scheme_here", "_law_order", "_law_most_here", "_law_k"]
theorem scBook : FnScope nBook ["_law_draws_here", "_law_scheme_here", "_law_order", "_law_most_here"] (defScope sBook) := ⟨rfl, rfl, rfl, by decide +kernel, rfl, by decide +kernel, by decide +kernel⟩
/-- a book -/
def BookAt (H : Hp) (bk : Addr) (dl : List Dep) : Prop := ∃ es : List Addr, Tu H bk (es.map V.ref) ∧ Paired (DepAt H) es dl
theorem BookAt.tk {H H' : Hp} {bk : Addr} {dl : List Dep} (x : BookAt H bk dl) (t : TK H H') : BookAt H' bk dl := let ⟨es, h, p⟩ := x; ⟨es, t _ _ h, paired_map p fun _ _ z => z.tk t⟩
def spBook : Sp := fun vs H Q _ => ∃ (D sc o : Addr) (ws order : List Nat) (m : Nat), vs = [.ref D, .ref sc, .ref o, .int (m : Int)] ∧ DrawsAt H D ∧ Tu H sc (nV ws) ∧ SchOk ws ∧ OrdAt H D o order ws ∧ m ≤ 50 ∧
  ∀ (a : Addr) (dl : List Dep) H', BookAt H' a dl → (∀ d ∈ dl, DepGood ws order d) → dl.length ≤ m → Fm (isD D) H H' → DrawsAt H' D → Q (.ref a) H'
theorem ok_book {f f1 f2 : Addr} {fd fd1 fd2 : FuncData} (F : Fun K "_law_book" "_law_book" sBook f fd) (o1 : OTake K mg f1 fd1) (G1 : GTake P w K mg base f1 fd1) (o2 : Own K mg "_law_dependency" f2 fd2 ["_law_draws_here", "_law_scheme_here", "_law_order"]) (G2 : FnOk P w K mg base CX0 4 f2 fd2 ["_law_draws_here", "_law_scheme_here", "_law_order"] spDep)
    (mt : mg "tuple" = none) (mr : mg "range" = none) : FnOk P w K mg base CX0 5 f fd ["_law_draws_here", "_law_scheme_here", "_law_order", "_law_most_here"] spBook := by
  refine F.ok scBook (fun vs H Q E h => ?_) (fun cdv Ar outer sh H vs Q E hr h => ?_)
  · obtain ⟨D, sc, o, ws, order, m, rfl, _⟩ := h
    rfl
  · obtain ⟨D, sc, o, ws, order, m, rfl, hD, hsc, hok, ho, hm, k⟩ := h
    have nd := scBook.nd
    have hr1 : Room 1 _ := hr.mono (by decide)
    refine ⟨_, pss_one (ps_ret (pe_callTy cr_tup rfl mt (by rfl) (pa_cons (pe_lc (own := [("_law_k", 4)]) (g := gName 4) (tt := tYes) rfl nd (pi_range1 rfl mr (pa_cons (pe_call G1 hr1 rfl o1.mgf o1.kp o1.bd .nil pass0 (pa_cons (pv 0) (pa_cons (pe_op op_add (pv 3) pe_int) pa_nil))) pa_nil)) (blkOk_by (N := nBook) (sc := defScope sBook) (by decide +kernel)) (fun _ _ _ _ _ => pg_name (i := 4) nd rfl (Or.inl rfl)) (fun _ _ _ _ _ => pts_nil)
      (fun _ _ _ _ _ => pe_call G2 hr rfl o2.mgf o2.kp o2.bd .nil pass0 (pa_cons (pv 0) (pa_cons (pv 1) (pa_cons (pv 2) pa_nil))))) pa_nil))), ?_⟩
    refine ⟨_, rfl, _, rfl, _, _, rfl, rfl, D, m + 1, rfl, hD, by omega, fun r H1 hr1' f1 d1 => ⟨r, rfl, by omega, by omega, fun L hL => ?_⟩⟩
    have nLD := d1.ne hL
    have ho1 := ho.fm f1
    refine lc_accG (walk_r0 (n := r)) (S := isD D) (fun i acc H' => ∃ (es : List Addr) (dl : List Dep), acc = es.map V.ref ∧ Paired (DepAt H') es dl ∧ (∀ d ∈ dl, DepGood ws order d) ∧ dl.length = i ∧ DrawsAt H' D) (by omega) hL nLD (fun _ _ => trivial) (fun i acc H2 H3 ⟨es, dl, h1, h2, h3, h4, h5⟩ f => ⟨es, dl, h1, paired_map h2 fun _ _ z => z.tk f.tk, h3, h4, h5.fm f nLD.symm⟩) ⟨[], [], rfl, .nil, fun d hd => by simp at hd, rfl, d1⟩ ?_ ?_
    · rintro i x acc H2 H3 hi f ⟨es, dl, rfl, h2, h3, h4, h5⟩ _ ⟨rfl, rfl⟩ Qt Qf kt kf
      refine ⟨rfl, _, rfl, _, rfl, _, rfl, D, sc, o, ws, order, rfl, h5, (f1.trans f).tk _ _ hsc, hok, ho1.fm f, fun a d H4 hd hg f4 d4 => ?_⟩
      refine kt _ _ f4 ⟨es ++ [a], dl ++ [d], by simp, Paired.snoc (paired_map h2 fun _ _ z => z.tk f4.tk) hd, fun d' hd' => ?_, by simp [h4], d4⟩
      rcases List.mem_append.mp hd' with h | h
      · exact h3 d' h
      · rw [List.mem_singleton.mp h]; exact hg
    · rintro acc H2 f hl hd ⟨es, dl, rfl, h2, h3, h4, h5⟩
      refine ⟨L, _, rfl, .inl ⟨.of hd, fun a ha => ?_⟩⟩
      have fa : Fm Non H2 (upd H2 a (.tup (es.map V.ref))) := .new ha
      exact k a dl _ ⟨es, upd_same, paired_map h2 fun _ _ z => z.tk fa.tk⟩ h3 (by omega) ((f1.trans f).trans (fa.weak fun _ z => z.elim)) (h5.fm fa id)
end
end Nor
end
section
/-! The bound: what it computes, and that it makes a book tame. -/
namespace Nor
def insum (found : List Nat) (t : Nat) : Dep → Nat
  | .within s _ o _ => if o = t then found.getD s 0 else 0
  | _ => 0
def baseF (dl : List Dep) (rows found : List Nat) (t : Nat) : Nat := rows.getD t 0 + (dl.map (insum found t)).sum
def powF (b : Nat) : Nat → Nat → Nat
  | 0, x => x
  | j + 1, x => min (10 ^ 9) (powF b j x * b)
def fullF (dl : List Dep) (wf : Nat → Nat) (t b : Nat) : Nat := if joinedT dl t then powF b (wf t - 1) b else b
def stepF (dl : List Dep) (wf : Nat → Nat) (rows found : List Nat) (t : Nat) : List Nat := found.set t (fullF dl wf t (baseF dl rows found t))
def foundF (dl : List Dep) (wf : Nat → Nat) (rows order : List Nat) : List Nat := order.foldl (stepF dl wf rows) rows
theorem powF_eq {b : Nat} (hb : 1 ≤ b) : ∀ j, 1 ≤ j → powF b j b = min (10 ^ 9) (b ^ (j + 1))
  | 0, h => by omega
  | 1, _ => by
    show min (10 ^ 9) (b * b) = min (10 ^ 9) (b ^ 2)
    rw [Nat.pow_two]
  | j + 2, _ => by
    have ih := powF_eq hb (j + 1) (by omega)
    show min (10 ^ 9) (powF b (j + 1) b * b) = _
    rw [ih, Nat.pow_succ b (j + 2)]
    by_cases h : b ^ (j + 2) ≤ 10 ^ 9
    · rw [Nat.min_eq_right (a := 10 ^ 9) (b := b ^ (j + 1 + 1)) h]
    · have h1 : 10 ^ 9 ≤ b ^ (j + 2) := by omega
      rw [Nat.min_eq_left (a := 10 ^ 9) (b := b ^ (j + 1 + 1)) h1]
      have h2 : 10 ^ 9 ≤ 10 ^ 9 * b := Nat.le_mul_of_pos_right _ hb
      have h3 : 10 ^ 9 ≤ b ^ (j + 2) * b := Nat.le_trans h1 (Nat.le_mul_of_pos_right _ hb)
      rw [Nat.min_eq_left h2, Nat.min_eq_left h3]
theorem fullF_le {dl : List Dep} {wf : Nat → Nat} {t b : Nat} (hb : 1 ≤ b) (hw : 1 ≤ wf t) (h : fullF dl wf t b ≤ 64) : (if joinedT dl t then b ^ wf t else b) ≤ fullF dl wf t b := by
  unfold fullF at h ⊢
  split
  · rename_i hj
    rw [if_pos hj] at h
    by_cases h1 : wf t = 1
    · rw [h1]; simp [powF]
    · rw [powF_eq hb _ (by omega)] at h ⊢
      have e : wf t - 1 + 1 = wf t := by omega
      rw [e] at h ⊢
      by_cases h9 : b ^ wf t ≤ 10 ^ 9
      · rw [Nat.min_eq_right h9]; exact Nat.le_refl _
      · rw [Nat.min_eq_left (by omega)] at h
        omega
  · exact Nat.le_refl _
section
variable {dl : List Dep} {wf : Nat → Nat} {rows order : List Nat}
theorem stepF_len {found : List Nat} {t : Nat} : (stepF dl wf rows found t).length = found.length := by simp [stepF]
theorem fold_len : ∀ (l : List Nat) (found : List Nat), (l.foldl (stepF dl wf rows) found).length = found.length
  | [], _ => rfl
  | t :: l, found => by rw [List.foldl_cons, fold_len l, stepF_len]
theorem fold_ne {t : Nat} : ∀ (l : List Nat) (found : List Nat), t ∉ l → (l.foldl (stepF dl wf rows) found).getD t 0 = found.getD t 0
  | [], _, _ => rfl
  | u :: l, found, h => by
    rw [List.foldl_cons, fold_ne l _ fun z => h (List.mem_cons_of_mem _ z)]
    have hne : u ≠ t := fun e => h (by rw [e]; exact List.mem_cons_self)
    unfold stepF
    rw [List.getD_eq_getElem?_getD, List.getElem?_set_ne hne, ← List.getD_eq_getElem?_getD]
def atF (dl : List Dep) (wf : Nat → Nat) (rows order : List Nat) (j : Nat) : List Nat := (order.take j).foldl (stepF dl wf rows) rows
theorem final_at (nd : order.Nodup) {f t : Nat} (h : order[f]? = some t) {j : Nat} (hj : f < j) : (atF dl wf rows order j).getD t 0 = (atF dl wf rows order (f + 1)).getD t 0 := by
  have e : order.take j = order.take (f + 1) ++ (order.take j).drop (f + 1) := by
    have := (List.take_append_drop (f + 1) (order.take j)).symm
    rwa [List.take_take, Nat.min_eq_left (by omega)] at this
  unfold atF
  rw [e, List.foldl_append]
  refine fold_ne _ _ fun hm => ?_
  obtain ⟨i, hi⟩ := List.getElem?_of_mem hm
  rw [List.getElem?_drop, List.getElem?_take] at hi
  split at hi
  · have hl := List.getElem?_eq_some_iff.mp h
    have hl2 := List.getElem?_eq_some_iff.mp hi
    have := List.pairwise_iff_getElem.mp nd f (f + 1 + i) hl.1 hl2.1 (by omega)
    exact this (hl.2.trans hl2.2.symm)
  · cases hi
theorem foundF_at : foundF dl wf rows order = atF dl wf rows order order.length := by simp [foundF, atF]
theorem atF_succ {f t : Nat} (h : order[f]? = some t) : atF dl wf rows order (f + 1) = stepF dl wf rows (atF dl wf rows order f) t := by
  unfold atF
  rw [List.take_add_one, h, List.foldl_append]; rfl
theorem atF_len {j : Nat} : (atF dl wf rows order j).length = rows.length := fold_len _ _
/-- the final value at a table -/
theorem final_eq (nd : order.Nodup) {f t : Nat} (h : order[f]? = some t) (ht : t < rows.length) : (foundF dl wf rows order).getD t 0 = fullF dl wf t (baseF dl rows (atF dl wf rows order f) t) := by
  have hf : f < order.length := (List.getElem?_eq_some_iff.mp h).1
  rw [foundF_at, final_at nd h hf, atF_succ h]
  unfold stepF
  rw [List.getD_eq_getElem?_getD, List.getElem?_set_self (by rw [atF_len]; exact ht)]; rfl
end
/-- it makes a book tame -/
theorem tame_of {ws order : List Nat} {dl : List Dep} (ok : SchOk ws) (perm : order.Perm (List.range ws.length)) (good : ∀ d ∈ dl, DepGood ws order d) (h : ∀ y ∈ foundF dl (wfOf ws) (List.replicate ws.length 4) order, y ≤ 64) :
    ∃ B F rk, Tame ws.length (wfOf ws) dl (fun _ => 4) B F rk := by
  have nd : order.Nodup := perm.nodup_iff.mpr List.nodup_range
  have pos : ∀ t, t < ws.length → ∃ f : Nat, order[f]? = some t := fun t ht => List.getElem?_of_mem (perm.mem_iff.mpr (List.mem_range.mpr ht))
  let F : Nat → Nat := fun t => (foundF dl (wfOf ws) (List.replicate ws.length 4) order).getD t 0
  let B : Nat → Nat := fun t => 4 + (dl.map fun d => match d with | .within s _ o _ => if o = t then F s else 0 | _ => 0).sum
  have F64 : ∀ t, t < ws.length → F t ≤ 64 := fun t ht => by
    have hl : t < (foundF dl (wfOf ws) (List.replicate ws.length 4) order).length := by rw [foundF_at, atF_len, List.length_replicate]; exact ht
    show (foundF dl (wfOf ws) (List.replicate ws.length 4) order).getD t 0 ≤ 64
    rw [List.getD_eq_getElem?_getD, List.getElem?_eq_getElem hl]
    exact h _ (List.getElem_mem hl)
  have FB : ∀ t, t < ws.length → F t = fullF dl (wfOf ws) t (B t) := fun t ht => by
    obtain ⟨f, hf⟩ := pos t ht
    have := final_eq (dl := dl) (wf := wfOf ws) (rows := List.replicate ws.length 4) nd hf (by rw [List.length_replicate]; exact ht)
    show (foundF dl (wfOf ws) (List.replicate ws.length 4) order).getD t 0 = _
    rw [this]
    congr 1
    show (List.replicate ws.length 4).getD t 0 + _ = 4 + _
    have e1 : (List.replicate ws.length 4).getD t 0 = 4 := by simp [ht]
    rw [e1]
    congr 2
    refine List.map_congr_left fun d hd => ?_
    cases d with
    | within s cs o os =>
      show (if o = t then _ else 0) = (if o = t then F s else 0)
      by_cases ho : o = t
      · rw [if_pos ho, if_pos ho]
        obtain ⟨g1, _, g3⟩ := good _ hd
        obtain ⟨f1, f2, h1, h2, h3⟩ := g3 s cs o os rfl
        have hl2 := (List.getElem?_eq_some_iff.mp h2)
        have e2 : f2 = f := by
          rw [ho] at h2
          rcases Nat.lt_trichotomy f2 f with h | h | h
          · exact absurd ((List.getElem?_eq_some_iff.mp h2).2.trans (List.getElem?_eq_some_iff.mp hf).2.symm) (List.pairwise_iff_getElem.mp nd f2 f (List.getElem?_eq_some_iff.mp h2).1 (List.getElem?_eq_some_iff.mp hf).1 h)
          · exact h
          · exact absurd ((List.getElem?_eq_some_iff.mp hf).2.trans (List.getElem?_eq_some_iff.mp h2).2.symm) (List.pairwise_iff_getElem.mp nd f f2 (List.getElem?_eq_some_iff.mp hf).1 (List.getElem?_eq_some_iff.mp h2).1 h)
        subst e2
        show (atF dl (wfOf ws) (List.replicate ws.length 4) order f2).getD s 0 = (foundF dl (wfOf ws) (List.replicate ws.length 4) order).getD s 0
        rw [final_at nd h1 h3, foundF_at, final_at nd h1 (j := order.length) (List.getElem?_eq_some_iff.mp h1).1]
      · rw [if_neg ho, if_neg ho]
    | settles => rfl
    | deals => rfl
    | joins => rfl
  refine ⟨B, F, fun t => order.idxOf t, ?_, fun t ht => Nat.le_refl _, fun t ht => ?_, F64, fun t ht => ok.wid ht⟩
  · intro t cs o os hd
    obtain ⟨_, _, g3⟩ := good _ hd
    obtain ⟨f, s, h1, h2, h3⟩ := g3 t cs o os rfl
    have ix : ∀ {f t : Nat}, order[f]? = some t → order.idxOf t = f := fun {f t} h => by
      obtain ⟨a, b⟩ := List.getElem?_eq_some_iff.mp h
      rw [← b]
      exact List.Nodup.idxOf_getElem nd f a
    rw [ix h1, ix h2]
    exact h3
  · have h4 : 1 ≤ B t := by show 1 ≤ 4 + _; omega
    have := F64 t ht
    rw [FB t ht] at this ⊢
    exact fullF_le h4 (ok.wid ht).1 this
def tameB (ws order : List Nat) (dl : List Dep) : Bool := (foundF dl (wfOf ws) (List.replicate ws.length 4) order).all fun y => decide (y < 65)
theorem tame_nil (ws order : List Nat) : tameB ws order [] = true := by
  have : ∀ (l found : List Nat), found.length = ws.length → (∀ y ∈ found, y = 4) → ∀ y ∈ l.foldl (stepF [] (wfOf ws) (List.replicate ws.length 4)) found, y = 4 := by
    intro l
    induction l with
    | nil => exact fun found _ h => h
    | cons t l ih =>
      intro found hl h
      rw [List.foldl_cons]
      refine ih _ (by rw [stepF_len, hl]) fun y hy => ?_
      unfold stepF at hy
      by_cases ht : t < found.length
      · rcases List.mem_or_eq_of_mem_set hy with hy | hy
        · exact h y hy
        · rw [hy]
          have e1 : joinedT [] t = false := rfl
          have e2 : baseF [] (List.replicate ws.length 4) found t = (List.replicate ws.length 4).getD t 0 := rfl
          unfold fullF
          rw [e1, e2]
          have hw : t < ws.length := by omega
          simp [hw]
      · rw [List.set_eq_of_length_le (by omega)] at hy
        exact h y hy
  unfold tameB
  rw [List.all_eq_true]
  intro y hy
  have := this order (List.replicate ws.length 4) (by simp) (fun y hy => (List.mem_replicate.mp hy).2) y hy
  rw [this]; rfl
end Nor
end
section
/-! bound, is_tame, kept, scene. -/
namespace Nor
open PySem L2 L2.NW
theorem powF_max (b : Nat) : ∀ j x, powF b j x ≤ max (10 ^ 9) x
  | 0, x => Nat.le_max_right _ _
  | j + 1, x => Nat.le_trans (Nat.min_le_left _ _) (Nat.le_max_left _ _)
theorem joined_eq (t : Nat) (d : Dep) : Dep.joined t d = (decide (kindNo d = 1) && decide (d.tab = t)) := by
  cases d <;> simp [Dep.joined, kindNo, Dep.tab] <;> rfl
theorem nat_at {l : List Nat} {t : Nat} (h : t < l.length) : (nV l)[t]? = some (V.int (l.getD t 0 : Int)) := by simp [nV, h]
theorem nV_set (l : List Nat) (t x : Nat) : (nV l).set t (V.int (x : Int)) = nV (l.set t x) := by simp [nV, List.map_set]
section
variable {P : Program} {w : World} {K : PySem.W.Frag} {mg : Str → Option Value} {base : Heap} {H H' : Hp}
abbrev nBound : List Str := ["_law_scheme_here", "_law_order", "_law_book_here", "_law_rows", "_law_found", "_law_table", "_law_base", "_law_joined", "_law_dependency_here", "_law_k"]
theorem scBound : FnScope nBound ["_law_scheme_here", "_law_order", "_law_book_here", "_law_rows"] (defScope sBound) := ⟨rfl, rfl, rfl, by decide +kernel, rfl, by decide +kernel, by decide +kernel⟩
def spBound : Sp := fun vs H Q _ => ∃ (sc o bk r : Addr) (ws order rows : List Nat) (dl : List Dep), vs = [.ref sc, .ref o, .ref bk, .ref r] ∧ Tu H sc (nV ws) ∧ SchOk ws ∧ H o = some (.lst (nV order)) ∧ (∀ t ∈ order, t < ws.length) ∧ order.length ≤ 3 ∧ BookAt H bk dl ∧ (∀ d ∈ dl, DepOk ws.length (wfOf ws) d) ∧ dl.length ≤ 50 ∧
  H r = some (.lst (nV rows)) ∧ rows.length = ws.length ∧ (∀ y ∈ rows, y ≤ 10 ^ 9) ∧ ∀ (m : Nat) H', Fm Non H H' → m ∈ foundF dl (wfOf ws) rows order → (∀ y ∈ foundF dl (wfOf ws) rows order, y ≤ m) → Q (.int (m : Int)) H'
theorem ok_bound {f : Addr} {fd : FuncData} (F : Fun K "_law_bound" "_law_bound" sBound f fd) (mli : mg "list" = none) (mr : mg "range" = none) (mm : mg "min" = none) (mx : mg "max" = none) : FnOk P w K mg base CX0 1 f fd ["_law_scheme_here", "_law_order", "_law_book_here", "_law_rows"] spBound := by
  refine F.ok scBound (fun vs H Q E h => ?_) (fun cdv Ar outer sh H vs Q E hr h => ?_)
  · obtain ⟨sc, o, bk, r, ws, order, rows, dl, rfl, _⟩ := h
    rfl
  · obtain ⟨sc, o, bk, r, ws, order, rows, dl, rfl, hsc, hok, ho, holt, hol, hbk, hdl, hdn, hro, hrl, hrb, k⟩ := h
    have nd := scBound.nd
    refine ⟨_, pss_cons (ps_set (i := 4) nd rfl (Or.inl rfl) (pe_callTy call_list_of rfl mli (by rfl) (pa_cons (pv 3) pa_nil)))
      (pss_cons (ps_for PassesOwn.never rfl (pi_list (pv 1)) (pg_name (i := 5) nd rfl (Or.inl rfl))
        (pss_cons (ps_set (i := 6) nd rfl (Or.inl rfl) (pe_ix ix_list (pv 3) (pv 5) (fun _ _ => rfl)))
        (pss_cons (ps_set (i := 7) nd rfl (Or.inl rfl) pe_bl)
        (pss_cons (ps_for PassesOwn.never rfl (pi_tup (pv 2)) (pg_name (i := 8) nd rfl (Or.inl rfl))
          (pss_cons (ps_if (PW.pt (pw_and (pt_cmpR op_eq (pe_ix ix_tup (pv 8) pe_int (fun _ _ => rfl)) pe_str (nomark _)) (pw_and1 (pt_cmpR op_eq (pe_ix ix_tup (pv 8) pe_int (fun _ _ => rfl)) (pv 5) (nomark _)))))
            (pss_one (ps_set (i := 6) nd rfl (Or.inl rfl) (pe_op op_add (pv 6) (pe_ix ix_list (pv 4) (pe_ix ix_tup (pv 8) pe_int (fun _ _ => rfl)) (fun _ _ => rfl))))) pss_nil)
          (pss_one (ps_set (i := 7) nd rfl (Or.inl rfl) (pe_or (pv 7) (pe_one (pe_and (pe_cmpR op_in_seq (pe_ix ix_tup (pv 8) pe_int (fun _ _ => rfl)) (pe_lst (pa_cons pe_str (pa_cons pe_str pa_nil))) rfl) (pe_one (pe_cmpR op_eq (pe_ix ix_tup (pv 8) pe_int (fun _ _ => rfl)) (pv 5) (nomark _))))))))))
        (pss_cons (ps_asg (pv 6) (pg_sub (pv 4) (pv 5) set_list))
        (pss_one (ps_if (pt_val (pv 7)) (pss_one (ps_for PassesOwn.never rfl (pi_range1 rfl mr (pa_cons (pe_op op_sub (pe_ix ix_tup (pv 0) (pv 5) (fun _ _ => rfl)) pe_int) pa_nil)) (pg_name (i := 9) nd rfl (Or.inl rfl))
          (pss_one (ps_asg (pe_callB (call_min2 rfl) rfl mm PyProof.Rows.boot_min (pa_cons (pe_op op_pow pe_int pe_int) (pa_cons (pe_op op_mul (pe_ix ix_list (pv 4) (pv 5) (fun _ _ => rfl)) (pv 6)) pa_nil))) (pg_sub (pv 4) (pv 5) set_list))))) pss_nil)))))))
      (pss_one (ps_ret (pe_callB (cr_max rfl) rfl mx PyProof.Rows.boot_max (pa_cons (pv 4) pa_nil))))), ?_⟩
    obtain ⟨es, hes, hpe⟩ := hbk
    have hel : es.length = dl.length := Paired.length hpe
    refine ⟨_, rfl, r, _, rfl, .inl (.of hro), fun fo hfo => ?_⟩
    have f1 : Fm Non H (upd H fo (.lst (nV rows))) := .new hfo
    have nro : r ≠ fo := ne_of_none hro hfo
    -- for table in order
    refine ⟨_, rfl, o, rfl, ⟨_, .of (f1.ob _ _ ho id)⟩, for_list (K := K) (a := o) (xs := nV order) (fun j σ Hc => ∃ (x5 x6 x7 x8 x9 : Option V), σ = [some (.ref sc), some (.ref o), some (.ref bk), some (.ref r), some (.ref fo), x5, x6, x7, x8, x9] ∧ Fm Non H Hc ∧ Hc fo = some (.lst (nV (atF dl (wfOf ws) rows order j))) ∧ ∀ y ∈ atF dl (wfOf ws) rows order j, y ≤ 10 ^ 9 * 100 ^ j) ?_ ?_ ?_ ?_⟩
    · exact ⟨_, _, _, _, _, rfl, f1, upd_same, fun y hy => by have := hrb y hy; simpa using this⟩
    · rintro j σ Hc _ ⟨_, _, _, _, _, _, f, _⟩
      exact .of (f.ob _ _ ho id)
    · rintro j x σ Hc hx ⟨x5, x6, x7, x8, x9, rfl, fc, hfc, hbd⟩
      obtain ⟨t, ht, rfl⟩ := nV_get hx
      have htl := holt t (List.mem_of_getElem? ht)
      have hj3 : j < 3 := by have := (List.getElem?_eq_some_iff.mp ht).1; omega
      have hfl : (atF dl (wfOf ws) rows order j).length = ws.length := by rw [atF_len, hrl]
      generalize hfd : atF dl (wfOf ws) rows order j = found at hfc hbd hfl
      have hr0 : rows.getD t 0 ≤ 10 ^ 9 := by
        have h : t < rows.length := by omega
        rw [List.getD_eq_getElem?_getD, List.getElem?_eq_getElem h]
        exact hrb _ (List.getElem_mem h)
      have hfb : ∀ s, found.getD s 0 ≤ 10 ^ 9 * 100 ^ j := fun s => by
        by_cases h : s < found.length
        · rw [List.getD_eq_getElem?_getD, List.getElem?_eq_getElem h]
          exact hbd _ (List.getElem_mem h)
        · rw [List.getD_eq_getElem?_getD, List.getElem?_eq_none (by omega)]
          exact Nat.zero_le _
      refine ⟨_, rfl, _, rfl, r, _, _, _, rfl, rfl, .of (fc.ob _ _ hro id), atI_nat (nat_at (by omega)), ?_⟩
      -- for dependency in book
      refine ⟨_, rfl, bk, rfl, ⟨_, .of (fc.tk _ _ hes)⟩, for_tup (K := K) (a := bk) (xs := es.map V.ref) (fun i σ He => ∃ (x8 : Option V), σ = [some (.ref sc), some (.ref o), some (.ref bk), some (.ref r), some (.ref fo), some (.int (t : Int)), some (.int ((rows.getD t 0 + ((dl.take i).map (insum found t)).sum : Nat) : Int)), some (.bl (joinedT (dl.take i) t)), x8, x9] ∧ Fm Non Hc He) ?_ ?_ ?_ ?_⟩
      · exact ⟨_, by simp [joinedT]; rfl, .refl⟩
      · rintro i σ He _ ⟨_, _, f⟩
        exact .of (f.tk _ _ (fc.tk _ _ hes))
      · rintro i x σ He hx ⟨x8, rfl, fe⟩
        obtain ⟨e, he, rfl⟩ := map_at hx
        obtain ⟨d, hd, hda⟩ := paired_at hpe he
        have hdm := List.mem_of_getElem? hd
        have dok := hdl d hdm
        have tkk := fc.tk.trans fe.tk
        obtain ⟨xs, hx0, hk0, hk1⟩ := (hda.tk tkk).head
        have e1 : ((dl.take (i + 1)).map (insum found t)).sum = ((dl.take i).map (insum found t)).sum + insum found t d := by
          rw [List.take_add_one, hd, List.map_append, List.sum_append]; simp
        have e2 : joinedT (dl.take (i + 1)) t = (joinedT (dl.take i) t || Dep.joined t d) := by
          unfold joinedT
          rw [List.take_add_one, hd, List.any_append]; simp
        -- joined
        have J : ∀ (b : Int) (Q' : VK), (∀ H', Fm Non Hc H' → Q' (.bl (joinedT (dl.take (i + 1)) t)) H') → tOrV (tVar 7) (tAndV (tOp (rIn K false) (tOp (rIxT K) (tVar 8) (tC (.int 0))) (tLst (tCons (tC (.str "deals")) (tCons (tC (.str "joins")) tNil)))) (tOp rEq (tOp (rIxT K) (tVar 8) (tC (.int 1))) (tVar 5)))
            [some (.ref sc), some (.ref o), some (.ref bk), some (.ref r), some (.ref fo), some (.int (t : Int)), some (.int b), some (.bl (joinedT (dl.take i) t)), some (.ref e), x9] He Q' := by
          intro b Q' hq
          refine ⟨_, rfl, _, rfl, ?_⟩
          cases hjt : joinedT (dl.take i) t with
          | true =>
            refine iteT ?_
            have := hq He fe
            rw [e2, hjt, Bool.true_or] at this
            exact this
          | false =>
            rw [hjt, Bool.false_or, joined_eq] at e2
            refine iteF ⟨_, rfl, e, _, _, _, rfl, rfl, .of hx0, atI_nat (j := 0) hk0, by show 2 ≤ sizeLine; decide, fun l hl => ?_⟩
            have fl : Fm Non He (upd He l (.lst [.str "deals", .str "joins"])) := .new hl
            refine ⟨l, _, rfl, .inl (.of upd_same), rfl, by simp [flatV], _, rfl, ?_⟩
            have hin : inV (.str d.kind) [.str "deals", .str "joins"] = decide (kindNo d = 1) := by
              have := inV_strs d.kind (kNames 1)
              show inV (.str d.kind) ((kNames 1).map V.str) = _
              rw [this, decide_eq_decide]
              exact kind_in d 1 (by decide)
            show if inV (.str d.kind) [.str "deals", .str "joins"] = true then _ else _
            rw [hin]
            by_cases hk : kindNo d = 1
            · rw [if_pos (decide_eq_true hk)]
              refine ⟨_, rfl, e, _, _, _, rfl, rfl, .of (fl.tk _ _ hx0), atI_nat (j := 1) hk1, _, rfl, rfl, ?_⟩
              have := hq _ (fe.trans fl)
              rw [e2] at this
              have e3 : decide (V.int (d.tab : Int) = V.int (t : Int)) = (decide (kindNo d = 1) && decide (d.tab = t)) := by
                rw [decide_eq_true hk, Bool.true_and, decide_eq_decide]
                constructor
                · intro h; injection h with h; omega
                · intro h; rw [h]
              rw [e3]; exact this
            · rw [if_neg (by simp [hk])]
              have := hq _ (fe.trans fl)
              rw [e2] at this
              simpa [hk] using this
        -- the slots behind a turn
        have done : ∀ (b : Int) (H' : Hp), b = ((rows.getD t 0 + ((dl.take (i + 1)).map (insum found t)).sum : Nat) : Int) → Fm Non Hc H' → ∃ (x8 : Option V), ([some (V.ref sc), some (.ref o), some (.ref bk), some (.ref r), some (.ref fo), some (.int (t : Int)), some (.int b), some (.bl (joinedT (dl.take (i + 1)) t)), some (.ref e), x9] : St) = [some (V.ref sc), some (.ref o), some (.ref bk), some (.ref r), some (.ref fo), some (.int (t : Int)), some (.int ((rows.getD t 0 + ((dl.take (i + 1)).map (insum found t)).sum : Nat) : Int)), some (.bl (joinedT (dl.take (i + 1)) t)), x8, x9] ∧ Fm Non Hc H' := by
          intro b H' hb f
          exact ⟨_, by rw [hb], f⟩
        have same : insum found t d = 0 → rows.getD t 0 + ((dl.take i).map (insum found t)).sum = rows.getD t 0 + ((dl.take (i + 1)).map (insum found t)).sum := fun h => by rw [e1, h]; rfl
        refine ⟨_, rfl, e, _, _, _, rfl, rfl, .of hx0, atI_nat (j := 0) hk0, rfl, _, rfl, ?_⟩
        have other : (∀ s cs o' os, d ≠ .within s cs o' os) → insum found t d = 0 := fun h => by
          cases d with
          | within => exact absurd rfl (h _ _ _ _)
          | settles => rfl
          | deals => rfl
          | joins => rfl
        cases hdd : d with
        | within s cs o' os =>
          subst hdd
          obtain ⟨b1, b2, g1, g2, g3⟩ := hda.tk tkk
          refine iteT ⟨_, rfl, e, _, _, _, rfl, rfl, .of g1, atI_nat (j := 3) rfl, _, rfl, rfl, _, rfl, ?_⟩
          have slt : s < ws.length := dok.1
          refine ite2 (fun hc => ?_) (fun hc => ?_)
          · have hot : o' = t := by
              have : (o' : Int) = t := by simpa using hc
              omega
            refine ⟨_, rfl, _, rfl, _, rfl, e, _, _, _, rfl, rfl, .of g1, atI_nat (j := 1) rfl, fo, _, _, _, rfl, rfl, .of (fe.ob _ _ hfc id), atI_nat (nat_at (by omega)), _, _, rfl, rfl, ?_⟩
            have e4 : ((rows.getD t 0 + ((dl.take i).map (insum found t)).sum : Nat) : Int) + (found.getD s 0 : Nat) = ((rows.getD t 0 + ((dl.take i).map (insum found t)).sum + found.getD s 0 : Nat) : Int) := by omega
            have e5 : rows.getD t 0 + ((dl.take i).map (insum found t)).sum + found.getD s 0 = rows.getD t 0 + ((dl.take (i + 1)).map (insum found t)).sum := by
              rw [e1]; simp [insum, hot]; omega
            exact J _ _ fun H' f => done _ H' (e4.trans (congrArg Nat.cast e5)) f
          · have h0 : insum found t (.within s cs o' os) = 0 := by
              show (if o' = t then _ else 0) = 0
              rw [if_neg fun z => hc (by rw [z]; simp)]
            exact J _ _ fun H' f => done _ H' (congrArg Nat.cast (same h0)) f
        | settles =>
          refine ifS_ne (by subst hdd; show ¬ (("settles" : Str) = "within"); decide +kernel) (iteF ?_)
          exact J _ _ fun H' f => done _ H' (congrArg Nat.cast (same (other fun _ _ _ _ h => by rw [hdd] at h; cases h))) f
        | deals =>
          refine ifS_ne (by subst hdd; show ¬ (("deals" : Str) = "within"); decide +kernel) (iteF ?_)
          exact J _ _ fun H' f => done _ H' (congrArg Nat.cast (same (other fun _ _ _ _ h => by rw [hdd] at h; cases h))) f
        | joins =>
          refine ifS_ne (by subst hdd; show ¬ (("joins" : Str) = "within"); decide +kernel) (iteF ?_)
          exact J _ _ fun H' f => done _ H' (congrArg Nat.cast (same (other fun _ _ _ _ h => by rw [hdd] at h; cases h))) f
      · rintro σ He ⟨x8, rfl, fe⟩
        have htk : dl.take (es.map V.ref).length = dl := by rw [List.length_map, hel, List.take_length]
        rw [htk]
        have fHe := fc.trans fe
        have hfe := fe.ob _ _ hfc id
        have hsum : (dl.map (insum found t)).sum ≤ 50 * (10 ^ 9 * 100 ^ j) := Nat.le_trans (sum_const fun d _ => by
          cases d with
          | within s cs o' os =>
            show (if o' = t then found.getD s 0 else 0) ≤ _
            split
            · exact hfb s
            · exact Nat.zero_le _
          | settles => exact Nat.zero_le _
          | deals => exact Nat.zero_le _
          | joins => exact Nat.zero_le _) (Nat.mul_le_mul_right _ hdn)
        have hb0 : rows.getD t 0 + (dl.map (insum found t)).sum = baseF dl rows found t := rfl
        rw [hb0]
        have hM : 1 ≤ 100 ^ j := Nat.pow_pos (by decide)
        have hM3 : 100 ^ j ≤ 100 ^ 2 := Nat.pow_le_pow_right (by decide) (by omega)
        have hbase : baseF dl rows found t ≤ 51 * (10 ^ 9 * 100 ^ j) := by rw [← hb0]; omega
        generalize hbb : baseF dl rows found t = b at hbase ⊢
        have htf : t < found.length := by omega
        refine ⟨_, rfl, _, rfl, _, rfl, fo, _, _, _, rfl, rfl, hfe, ix_nat (by rw [nV_len]; exact htf), ?_⟩
        rw [nV_set]
        have fs : Fm Non H (upd He fo (.lst (nV (found.set t b)))) := fHe.sub (.mut hfe (fun _ => lst_ne) rfl) hfo
        have hstep : atF dl (wfOf ws) rows order (j + 1) = found.set t (fullF dl (wfOf ws) t b) := by
          rw [atF_succ ht, hfd]; unfold stepF; rw [hbb]
        have hfin : ∀ x, x ≤ max (10 ^ 9) b → ∀ y ∈ found.set t x, y ≤ 10 ^ 9 * 100 ^ (j + 1) := fun x hx y hy => by
          have e : 10 ^ 9 * 100 ^ (j + 1) = 100 * (10 ^ 9 * 100 ^ j) := by rw [Nat.pow_succ]; omega
          rw [e]
          rcases List.mem_or_eq_of_mem_set hy with hy | hy
          · have := hbd y hy; omega
          · rw [hy]
            rcases Nat.le_total (10 ^ 9) b with h | h
            · rw [Nat.max_eq_right h] at hx; omega
            · rw [Nat.max_eq_left h] at hx; omega
        refine ⟨_, rfl, _, rfl, ?_⟩
        cases hjt : joinedT dl t with
        | false =>
          have e1 : fullF dl (wfOf ws) t b = b := by unfold fullF; rw [hjt]; rfl
          refine iteF ⟨_, _, _, _, _, rfl, fs, by rw [hstep, e1]; exact upd_same, by rw [hstep, e1]; exact hfin b (Nat.le_max_right _ _)⟩
        | true =>
          have e1 : fullF dl (wfOf ws) t b = powF b (wfOf ws t - 1) b := by unfold fullF; rw [hjt]; rfl
          have wt := hok.wid htl
          refine iteT ⟨_, rfl, _, rfl, sc, _, _, _, rfl, rfl, .of (fs.tk _ _ hsc), atI_nat (sch_get htl), _, _, rfl, rfl, ((wfOf ws t - 1 : Nat) : Int), ?_, by omega, by omega, ?_⟩
          · show [V.int ((wfOf ws t : Int) - 1)] = _
            rw [show ((wfOf ws t : Nat) : Int) - 1 = ((wfOf ws t - 1 : Nat) : Int) by omega]
          · refine for_it walk_r0 (fun q σ Hq => ∃ (x9' : Option V), σ = [some (.ref sc), some (.ref o), some (.ref bk), some (.ref r), some (.ref fo), some (.int (t : Int)), some (.int (b : Int)), some (.bl true), x8, x9'] ∧ Fm Non H Hq ∧ Hq fo = some (.lst (nV (found.set t (powF b q b))))) ?_ ?_ ?_ ?_
            · exact ⟨_, rfl, fs, upd_same⟩
            · intro _ _ _ _ _; trivial
            · rintro q x σ Hq0 Hq hq ⟨x9', rfl, fq, hfq⟩ ⟨rfl, rfl⟩
              have hat : (nV (found.set t (powF b q b)))[t]? = some (V.int (powF b q b : Int)) := by simp [nV, htf]
              refine ⟨_, _, rfl, rfl, ⟨by decide, by decide, by decide⟩, _, rfl, _, rfl, fo, _, _, _, rfl, rfl, .of hfq, atI_nat hat, _, rfl, _, _, rfl, rfl, .inr ⟨by omega, by omega⟩, _, _, rfl, ?_⟩
              have ev : (if ((powF b q b : Nat) : Int) * (b : Int) < 10 ^ Int.toNat 9 then ((powF b q b : Nat) : Int) * (b : Int) else 10 ^ Int.toNat 9) = ((powF b (q + 1) b : Nat) : Int) := by
                show _ = ((min (10 ^ 9) (powF b q b * b) : Nat) : Int)
                have e9 : (10 : Int) ^ Int.toNat 9 = ((10 ^ 9 : Nat) : Int) := by decide
                rw [e9, ← Int.natCast_mul]
                split <;> omega
              refine ⟨_, rfl, _, rfl, fo, _, _, _, rfl, rfl, hfq, ix_nat (by rw [nV_len, List.length_set]; exact htf), ?_⟩
              refine ⟨_, rfl, fq.sub (.mut hfq (fun _ => lst_ne) rfl) hfo, ?_⟩
              rw [upd_same, ev, nV_set, List.set_set]
            · rintro σ Hq ⟨x9', rfl, fq, hfq⟩
              have ewt : ((wfOf ws t - 1 : Nat) : Int).toNat = wfOf ws t - 1 := rfl
              rw [ewt] at hfq
              exact ⟨_, _, _, _, _, rfl, fq, by rw [hstep, e1]; exact hfq, by rw [hstep, e1]; exact hfin _ (powF_max _ _ _)⟩
    · rintro σ Hc ⟨x5, x6, x7, x8, x9, rfl, fc, hfc, hbd⟩
      rw [nV_len] at hfc
      rw [← foundF_at] at hfc
      have hfl : (foundF dl (wfOf ws) rows order).length = ws.length := by rw [foundF_at, atF_len, hrl]
      have l1 := hok.l1
      refine ⟨_, rfl, fo, (foundF dl (wfOf ws) rows order).map fun x : Nat => (x : Int), rfl, .of (by rw [← nV_ints]; exact hfc), by rw [List.length_map]; omega, fun m hm hmax => ?_⟩
      obtain ⟨y, hy, rfl⟩ := List.mem_map.mp hm
      exact k y Hc fc hy fun z hz => by have := hmax z (List.mem_map.mpr ⟨z, hz, rfl⟩); omega
end
end Nor
end
section
/-! is_tame, kept, scene. -/
namespace Nor
open PySem L2 L2.NW
section
variable {P : Program} {w : World} {K : PySem.W.Frag} {mg : Str → Option Value} {base : Heap} {H H' : Hp}
abbrev nTame : List Str := ["_law_scheme_here", "_law_order", "_law_book_here", "_law_many", "_law_table", "_law_rows", "_law_width", "_law_other"]
theorem scTame : FnScope nTame ["_law_scheme_here", "_law_order", "_law_book_here", "_law_many"] (defScope sIsTame) := ⟨rfl, rfl, rfl, by decide +kernel, rfl, by decide +kernel, by decide +kernel⟩
def spTame : Sp := fun vs H Q _ => ∃ (sc o bk : Addr) (ws order : List Nat) (dl : List Dep), vs = [.ref sc, .ref o, .ref bk, .int 4] ∧ Tu H sc (nV ws) ∧ SchOk ws ∧ H o = some (.lst (nV order)) ∧ order.Perm (List.range ws.length) ∧ BookAt H bk dl ∧ (∀ d ∈ dl, DepGood ws order d) ∧ dl.length ≤ 50 ∧
  ∀ H', Fm Non H H' → Q (.bl (tameB ws order dl)) H'
theorem ok_tame {f f1 f2 : Addr} {fd fd1 fd2 : FuncData} (F : Fun K "_law_is_tame" "_law_is_tame" sIsTame f fd) (o1 : Own K mg "_law_bound" f1 fd1 ["_law_scheme_here", "_law_order", "_law_book_here", "_law_rows"]) (G1 : FnOk P w K mg base CX0 1 f1 fd1 ["_law_scheme_here", "_law_order", "_law_book_here", "_law_rows"] spBound)
    (o2 : Own K mg "_law_most" f2 fd2 ["_law_width", "_law_many"]) (G2 : FnOk P w K mg base CX0 1 f2 fd2 ["_law_width", "_law_many"] spMost) : FnOk P w K mg base CX0 2 f fd ["_law_scheme_here", "_law_order", "_law_book_here", "_law_many"] spTame := by
  refine F.ok scTame (fun vs H Q E h => ?_) (fun cdv Ar outer sh H vs Q E hr h => ?_)
  · obtain ⟨sc, o, bk, ws, order, dl, rfl, _⟩ := h
    rfl
  · obtain ⟨sc, o, bk, ws, order, dl, rfl, hsc, hok, ho, hp, hbk, hg, hdn, k⟩ := h
    have nd := scTame.nd
    refine ⟨_, pss_cons (ps_if (pt_cmpR op_gt (pv 3) pe_int (nomark _)) (pss_one (ps_ret (pe_cmpR op_lt (pe_call G1 hr rfl o1.mgf o1.kp o1.bd .nil pass0 (pa_cons (pv 0) (pa_cons (pv 1) (pa_cons (pv 2) (pa_cons (pe_lc (own := [("_law_width", 6)]) (g := gName 6) (tt := tYes) rfl nd (pi_tup (pv 0)) (blkOk_by (N := nTame) (sc := defScope sIsTame) (by decide +kernel)) (fun _ _ _ _ _ => pg_name (i := 6) nd rfl (Or.inl rfl)) (fun _ _ _ _ _ => pts_nil)
      (fun _ _ _ _ _ => pe_call G2 hr rfl o2.mgf o2.kp o2.bd .nil pass0 (pa_cons (pv 6) (pa_cons (pv 3) pa_nil)))) pa_nil))))) pe_int (nomark _)))) pss_nil) pss_never, ?_⟩
    have hol : order.length = ws.length := by have := hp.length_eq; rwa [List.length_range] at this
    have l3 := hok.l3
    refine ⟨_, rfl, _, _, rfl, rfl, _, rfl, ?_⟩
    refine iteT ?_
    refine ⟨_, rfl, _, rfl, _, rfl, _, rfl, sc, rfl, ⟨_, .of hsc⟩, fun L hL => ?_⟩
    refine lc_accG (walk_tup (K := K) (xs := nV ws)) (S := Non) (fun i acc H' => acc = nV (List.replicate i 4)) (by rw [nV_len]; omega) hL id (fun H' f => .of (f.tk _ _ hsc)) (fun i acc H2 H3 e _ => e) rfl ?_ ?_
    · rintro i x acc H2 H3 hi f rfl _ ⟨rfl, hx⟩ Qt Qf kt kf
      obtain ⟨c, hc, rfl⟩ := nV_get hx
      refine ⟨rfl, _, rfl, _, rfl, c, 4, rfl, by decide, kt _ _ .refl ?_⟩
      rw [List.replicate_succ']; simp [nV]
    · rintro acc H2 f hl hd rfl
      rw [nV_len] at hd
      refine ⟨sc, o, bk, L, ws, order, List.replicate ws.length 4, dl, rfl, f.tk _ _ hsc, hok, f.ob _ _ ho id, fun t ht => List.mem_range.mp (hp.mem_iff.mp ht), by omega, hbk.tk f.tk, fun d hd => (hg d hd).1, hdn, hd, by simp, fun y hy => by rw [(List.mem_replicate.mp hy).2]; decide, fun m H3 f3 hm hmax => ?_⟩
      refine ⟨_, _, rfl, rfl, ?_⟩
      have e : tameB ws order dl = decide ((m : Int) < 65) := by
        unfold tameB
        rw [Bool.eq_iff_iff, List.all_eq_true, decide_eq_true_iff]
        constructor
        · intro h; have := of_decide_eq_true (h m hm); omega
        · intro h y hy; have := hmax y hy; exact decide_eq_true (by omega)
      have := k H3 (f.trans f3)
      rw [e] at this
      exact this
/-! ### kept -/
abbrev nKept : List Str := ["_law_scheme_here", "_law_order", "_law_book_here", "_law_many", "_law_k"]
theorem scKept : FnScope nKept ["_law_scheme_here", "_law_order", "_law_book_here", "_law_many"] (defScope sKept) := ⟨rfl, rfl, rfl, by decide +kernel, rfl, by decide +kernel, by decide +kernel⟩
def spKept : Sp := fun vs H Q _ => ∃ (sc o bk : Addr) (ws order : List Nat) (dl : List Dep), vs = [.ref sc, .ref o, .ref bk, .int 4] ∧ Tu H sc (nV ws) ∧ SchOk ws ∧ H o = some (.lst (nV order)) ∧ order.Perm (List.range ws.length) ∧ BookAt H bk dl ∧ (∀ d ∈ dl, DepGood ws order d) ∧ dl.length ≤ 50 ∧
  ∀ (b : Addr) (dl' : List Dep) H', Fm Non H H' → BookAt H' b dl' → (∀ d ∈ dl', DepGood ws order d) → dl'.length ≤ dl.length → tameB ws order dl' = true → Q (.ref b) H'
theorem ok_kept {f f1 : Addr} {fd fd1 : FuncData} (F : Fun K "_law_kept" "_law_kept" sKept f fd) (o1 : Own K mg "_law_is_tame" f1 fd1 ["_law_scheme_here", "_law_order", "_law_book_here", "_law_many"]) (G1 : FnOk P w K mg base CX0 2 f1 fd1 ["_law_scheme_here", "_law_order", "_law_book_here", "_law_many"] spTame)
    (ml : mg "len" = none) (mr : mg "range" = none) : FnOk P w K mg base CX0 3 f fd ["_law_scheme_here", "_law_order", "_law_book_here", "_law_many"] spKept := by
  refine F.ok scKept (fun vs H Q E h => ?_) (fun cdv Ar outer sh H vs Q E hr h => ?_)
  · obtain ⟨sc, o, bk, ws, order, dl, rfl, _⟩ := h
    rfl
  · obtain ⟨sc, o, bk, ws, order, dl, rfl, hsc, hok, ho, hp, hbk, hg, hdn, k⟩ := h
    have nd := scKept.nd
    refine ⟨_, pss_cons (ps_for PassesOwn.never rfl (pi_range1 rfl mr (pa_cons (pe_callB cr_lenQ (by rfl) ml PySem.boot_len (pa_cons (pv 2) pa_nil)) pa_nil)) (pg_name (i := 4) nd rfl (Or.inl rfl))
        (pss_one (ps_if (pt_not (pt_val (pe_call G1 hr rfl o1.mgf o1.kp o1.bd .nil pass0 (pa_cons (pv 0) (pa_cons (pv 1) (pa_cons (pv 2) (pa_cons (pv 3) pa_nil))))))) (pss_one (ps_set (i := 2) nd rfl (Or.inl rfl) (pe_slice sl_tupA (pv 2) po_none (po_some (pe_un un_neg pe_int))))) pss_nil)))
      (pss_one (ps_ret (pv 2))), ?_⟩
    obtain ⟨es, hes, hpe⟩ := id hbk
    have hel : es.length = dl.length := Paired.length hpe
    refine ⟨_, rfl, bk, _, rfl, .inr (.of hes), dl.length, (by rw [List.length_map, hel]), by omega, by omega, for_it walk_r0 (fun i σ Hc => ∃ (b : Addr) (dl' : List Dep) (x4 : Option V), σ = [some (.ref sc), some (.ref o), some (.ref b), some (.int 4), x4] ∧ Fm Non H Hc ∧ BookAt Hc b dl' ∧ (∀ d ∈ dl', DepGood ws order d) ∧ dl'.length ≤ dl.length ∧ (tameB ws order dl' = true ∨ dl'.length + i ≤ dl.length)) ?_ ?_ ?_ ?_⟩
    · exact ⟨bk, dl, _, rfl, .refl, hbk, hg, Nat.le_refl _, .inr (Nat.le_refl _)⟩
    · intro _ _ _ _ _; trivial
    · rintro i x σ Hc0 Hc hi ⟨b, dl', x4, rfl, fc, hb, hg', hl', hor⟩ ⟨rfl, rfl⟩
      refine ⟨_, rfl, _, rfl, _, rfl, _, rfl, sc, o, b, ws, order, dl', rfl, fc.tk _ _ hsc, hok, fc.ob _ _ ho id, hp, hb, hg', by omega, fun H1 f1 => ⟨_, rfl, ?_⟩⟩
      cases ht : tameB ws order dl' with
      | true => exact iteF ⟨b, dl', _, rfl, fc.trans f1, hb.tk f1.tk, hg', hl', .inl ht⟩
      | false =>
        have hor : dl'.length + i ≤ dl.length := hor.resolve_left (by rw [ht]; exact Bool.false_ne_true)
        have hne : dl' ≠ [] := fun z => by rw [z, tame_nil] at ht; cases ht
        obtain ⟨fs, hfs, hpf⟩ := hb.tk f1.tk
        have hfl : fs.length = dl'.length := Paired.length hpf
        have hpos : 0 < fs.length := by rw [hfl]; exact List.length_pos_iff.mpr hne
        have e1 : HT.sIx (fs.map V.ref).length 0 none = 0 := rfl
        have e2 : HT.sIx (fs.map V.ref).length (fs.map V.ref).length (some (-1)) = fs.length - 1 := by
          rw [List.length_map]
          unfold HT.sIx
          simp
          omega
        have hcut : cutV (fs.map V.ref) none (some (-1)) = fs.dropLast.map V.ref := by
          unfold cutV
          rw [e1, e2, List.drop_zero, Nat.sub_zero, ← List.map_take, List.dropLast_eq_take]
        refine iteT ⟨_, rfl, _, rfl, _, rfl, b, _, rfl, .of hfs, fun hw => ?_, fun _ q hq => ?_⟩
        · have := hw.2
          have e2' : HT.sIx (fs.map V.ref).length (fs.map V.ref).length (some (-1)) = (fs.map V.ref).length := this
          rw [e2, List.length_map] at e2'
          omega
        · have hcut' : cutV (fs.map V.ref) none (some (-1)) = fs.dropLast.map V.ref := hcut
          have fq : Fm Non H1 (upd H1 q (.tup (fs.dropLast.map V.ref))) := .new hq
          have pd : ∀ {l : List Addr} {m : List Dep}, Paired (DepAt H1) l m → Paired (DepAt H1) l.dropLast m.dropLast := fun {l m} h => by
            obtain ⟨h1, h2⟩ := paired_iff.mp h
            refine paired_iff.mpr ⟨by simp [h1], fun i a b ha hb => ?_⟩
            rw [List.dropLast_eq_take, List.getElem?_take] at ha hb
            split at ha
            · split at hb
              · exact h2 i a b ha hb
              · cases hb
            · cases ha
          have goal : ∃ (b : Addr) (dl2 : List Dep) (x4' : Option V), ([some (V.ref sc), some (.ref o), some (.ref q), some (.int 4), some (.int (i : Int))] : St) = [some (.ref sc), some (.ref o), some (.ref b), some (.int 4), x4'] ∧ Fm Non H (upd H1 q (.tup (fs.dropLast.map V.ref))) ∧ BookAt (upd H1 q (.tup (fs.dropLast.map V.ref))) b dl2 ∧ (∀ d ∈ dl2, DepGood ws order d) ∧ dl2.length ≤ dl.length ∧ (tameB ws order dl2 = true ∨ dl2.length + (i + 1) ≤ dl.length) := by
            refine ⟨q, dl'.dropLast, _, rfl, (fc.trans f1).trans fq, ⟨fs.dropLast, upd_same, paired_map (pd hpf) fun _ _ z => z.tk fq.tk⟩, fun d hd => hg' d (List.dropLast_subset _ hd), by rw [List.length_dropLast]; omega, .inr ?_⟩
            rw [List.length_dropLast]; omega
          rw [← hcut'] at goal
          exact goal
    · rintro σ Hc ⟨b, dl', x4, rfl, fc, hb, hg', hl', hor⟩
      refine ⟨_, rfl, k b dl' Hc fc hb hg' hl' ?_⟩
      rcases hor with h | h
      · exact h
      · have h : dl'.length + dl.length ≤ dl.length := h
        have : dl' = [] := List.eq_nil_of_length_eq_zero (by omega)
        rw [this]; exact tame_nil _ _
/-! ### scene -/
abbrev nScene : List Str := ["_law_draws_here", "_law_many", "_law_scheme_here", "_law_order"]
theorem scScene : FnScope nScene ["_law_draws_here", "_law_many"] (defScope sScene) := ⟨rfl, rfl, rfl, by decide +kernel, rfl, by decide +kernel, by decide +kernel⟩
def spScene : Sp := fun vs H Q _ => ∃ (D : Addr), vs = [.ref D, .int 4] ∧ DrawsAt H D ∧ ∀ (l sc o bk : Addr) (ws order : List Nat) (dl : List Dep) H', H' l = some (.lst [.ref sc, .ref o, .ref bk]) → Tu H' sc (nV ws) → SchOk ws → OrdAt H' D o order ws → BookAt H' bk dl → (∀ d ∈ dl, DepGood ws order d) → dl.length ≤ 4 → tameB ws order dl = true →
  Fm (isD D) H H' → DrawsAt H' D → Q (.ref l) H'
theorem ok_scene {f f1 f2 f3 f4 : Addr} {fd fd1 fd2 fd3 fd4 : FuncData} (F : Fun K "_law_scene" "_law_scene" sScene f fd) (o1 : Own K mg "_law_scheme" f1 fd1 ["_law_draws_here"]) (G1 : FnOk P w K mg base CX0 2 f1 fd1 ["_law_draws_here"] spScheme) (o2 : Own K mg "_law_mixed" f2 fd2 ["_law_draws_here", "_law_many"]) (G2 : FnOk P w K mg base CX0 2 f2 fd2 ["_law_draws_here", "_law_many"] spMixed)
    (o3 : Own K mg "_law_book" f3 fd3 ["_law_draws_here", "_law_scheme_here", "_law_order", "_law_most_here"]) (G3 : FnOk P w K mg base CX0 5 f3 fd3 ["_law_draws_here", "_law_scheme_here", "_law_order", "_law_most_here"] spBook) (o4 : Own K mg "_law_kept" f4 fd4 ["_law_scheme_here", "_law_order", "_law_book_here", "_law_many"]) (G4 : FnOk P w K mg base CX0 3 f4 fd4 ["_law_scheme_here", "_law_order", "_law_book_here", "_law_many"] spKept)
    (ml : mg "len" = none) : FnOk P w K mg base CX0 6 f fd ["_law_draws_here", "_law_many"] spScene := by
  refine F.ok scScene (fun vs H Q E h => ?_) (fun cdv Ar outer sh H vs Q E hr h => ?_)
  · obtain ⟨D, rfl, _⟩ := h
    rfl
  · obtain ⟨D, rfl, hD, k⟩ := h
    have nd := scScene.nd
    refine ⟨_, pss_cons (ps_set (i := 2) nd rfl (Or.inl rfl) (pe_call G1 (hr.mono (by decide)) rfl o1.mgf o1.kp o1.bd .nil pass0 (pa_cons (pv 0) pa_nil)))
      (pss_cons (ps_set (i := 3) nd rfl (Or.inl rfl) (pe_call G2 (hr.mono (by decide)) rfl o2.mgf o2.kp o2.bd .nil pass0 (pa_cons (pv 0) (pa_cons (pe_callB cr_lenQ (by rfl) ml PySem.boot_len (pa_cons (pv 2) pa_nil)) pa_nil))))
      (pss_one (ps_ret (pe_lst (pa_cons (pv 2) (pa_cons (pv 3) (pa_cons (pe_call G4 (hr.mono (by decide)) rfl o4.mgf o4.kp o4.bd .nil pass0 (pa_cons (pv 2) (pa_cons (pv 3) (pa_cons (pe_call G3 hr rfl o3.mgf o3.kp o3.bd .nil pass0 (pa_cons (pv 0) (pa_cons (pv 2) (pa_cons (pv 3) (pa_cons pe_int pa_nil))))) (pa_cons (pv 1) pa_nil))))) pa_nil))))))), ?_⟩
    refine ⟨_, rfl, D, rfl, hD, fun sc ws H1 h1 l1 l3 hall f1 d1 => ?_⟩
    have hok : SchOk ws := ⟨l1, l3, hall⟩
    refine ⟨_, rfl, _, rfl, sc, _, rfl, .inr (.of h1), D, ws.length, (by rw [nV_len]; rfl), d1, by omega, fun o order H2 ho0 ho2 hp f2 d2 => ?_⟩
    have noD : o ≠ D := d1.ne ho0
    have h2 := f2.tk _ _ h1
    have hord : OrdAt H2 D o order ws := ⟨ho2, noD, hp⟩
    refine ⟨_, rfl, _, rfl, _, rfl, _, rfl, _, rfl, _, rfl, _, rfl, D, sc, o, ws, order, 4, rfl, d2, h2, hok, hord, by decide, fun bk dl H3 hb hg hl f3 d3 => ?_⟩
    have h3 := f3.tk _ _ h2
    have hord3 := hord.fm f3
    refine ⟨_, rfl, sc, o, bk, ws, order, dl, rfl, h3, hok, hord3.1, hp, hb, hg, by omega, fun b dl' H4 f4 hb' hg' hl' htame => ?_⟩
    refine ⟨by show 3 ≤ sizeLine; decide, fun l hl0 => ?_⟩
    have fl : Fm Non H4 (upd H4 l (.lst [.ref sc, .ref o, .ref b])) := .new hl0
    have f4l := f4.trans fl
    exact k l sc o b ws order dl' _ upd_same (f4l.tk _ _ h3) hok ⟨f4l.ob _ _ hord3.1 id, noD, hp⟩ (hb'.tk fl.tk) hg' (by omega) htame (((f1.trans f2).trans f3).trans (f4l.weak fun _ z => z.elim)) (d3.fm f4l id)
end
end Nor
end
section
/-! The law's store; are_within. -/
namespace Nor
open PySem L2 L2.NW
theorem boot_absN : bootBuiltins "abs" = some (.builtin "abs") := by decide +kernel
theorem Fm_up {S : Addr → Prop} {H H1 : Hp} {a : Addr} {xs ys : List V} (f : Fm S H H1) (h : H1 a = some (.lst xs)) (hn : H a = none) : Fm S H (upd H1 a (.lst ys)) :=
  f.step (S' := fun x => x = a) (.mut h (fun _ => lst_ne) rfl) fun x hx => .inr (by rw [hx]; exact hn)
theorem DrawsAt.up {H : Hp} {D a : Addr} {xs ys : List V} (d : DrawsAt H D) (h : H a = some (.lst xs)) (hn : a ≠ D) : DrawsAt (upd H a (.lst ys)) D := d.fm (S := fun x => x = a) (.mut h (fun _ => lst_ne) rfl) hn.symm
theorem four (a b c d : Int) {r : Nat} (h : r < 4) : ∃ v, ([V.int a, .int b, .int c, .int d] : List V)[r]? = some (.int v) := by
  match r, h with
  | 0, _ => exact ⟨a, rfl⟩
  | 1, _ => exact ⟨b, rfl⟩
  | 2, _ => exact ⟨c, rfl⟩
  | 3, _ => exact ⟨d, rfl⟩
section
variable {P : Program} {w : World} {K : PySem.W.Frag} {mg : Str → Option Value} {base : Heap} {H H' : Hp}
abbrev nLSt : List Str := ["_law_script", "_law_draws_here", "_law_scheme_here", "_law_most_here", "_law_unknown", "_law_far", "_law_low", "_law_tables", "_law_width", "_law_rows", "_law_k", "_law_row", "_law_column", "_law_value"]
abbrev pLSt : List Str := ["_law_script", "_law_draws_here", "_law_scheme_here", "_law_most_here", "_law_unknown"]
theorem scLSt : FnScope nLSt pLSt (defScope sLStore) := ⟨rfl, rfl, rfl, by decide +kernel, rfl, by decide +kernel, by decide +kernel⟩
/-- a store of the scheme with few rows -/
structure StoOk (ws : List Nat) (m : Nat) (L : List (List Row)) : Prop where
  len : L.length = ws.length
  all : ∀ (j : Nat) rs, L[j]? = some rs → rs.length ≤ m ∧ ∀ r ∈ rs, r.length = wfOf ws j
def spLSt (K : PySem.W.Frag) : Sp := fun vs H Q _ => ∃ (a D sc : Addr) (ns : List Int) (ws : List Nat), vs = [.ref a, .ref D, .ref sc, .int 2, .bl true] ∧ Scr K H D a ns ∧ DrawsAt H D ∧ Tu H sc (nV ws) ∧ SchOk ws ∧
  ∀ (b : Addr) (L : List (List Row)) H', StoreAt H' b L → StoOk ws 2 L → Fm (isD D) H H' → DrawsAt H' D → Q (.ref b) H'
theorem ok_lst {f f1 f2 f3 : Addr} {fd fd1 fd2 fd3 : FuncData} (F : Fun K "_law_store" "_law_store" sLStore f fd) (o1 : OTake K mg f1 fd1) (G1 : GTake P w K mg base f1 fd1) (o2 : Own K mg "_law_cell" f2 fd2 ["_law_script", "_law_draws_here"]) (G2 : FnOk P w K mg base CX0 2 f2 fd2 ["_law_script", "_law_draws_here"] (spCellN K))
    (o3 : Own K mg "_law_most" f3 fd3 ["_law_width", "_law_many"]) (G3 : FnOk P w K mg base CX0 1 f3 fd3 ["_law_width", "_law_many"] spMost) (ma : mg "abs" = none) (mi : mg "int" = none) (mt : mg "tuple" = none) (mr : mg "range" = none) (ms : mg "sorted" = none) (mse : mg "set" = none) :
    FnOk P w K mg base CX0 3 f fd pLSt (spLSt K) := by
  refine F.ok scLSt (fun vs H Q E h => ?_) (fun cdv Ar outer sh H vs Q E hr h => ?_)
  · obtain ⟨a, D, sc, ns, ws, rfl, _⟩ := h
    rfl
  · obtain ⟨a, D, sc, ns, ws, rfl, ha, hD, hsc, hok, k⟩ := h
    have nd := scLSt.nd
    have hr1 : Room 1 _ := hr.mono (by decide)
    refine ⟨_, pss_cons (ps_set (i := 5) nd rfl (Or.inl rfl) (pe_ix ix_list (pe_lst (pa_cons pe_int (pa_cons pe_int (pa_cons pe_int (pa_cons (pe_callB call_abs rfl ma boot_absN (pa_cons (pe_call G2 hr rfl o2.mgf o2.kp o2.bd .nil pass0 (pa_cons (pv 0) (pa_cons (pv 1) pa_nil))) pa_nil)) pa_nil))))) (pe_call G1 hr1 rfl o1.mgf o1.kp o1.bd .nil pass0 (pa_cons (pv 1) (pa_cons pe_int pa_nil))) (fun _ _ => rfl)))
      (pss_cons (ps_set (i := 6) nd rfl (Or.inl rfl) (pe_ix ix_list (pe_lst (pa_cons (pe_op op_sub (pe_un un_neg pe_int) (pe_callB call_abs rfl ma boot_absN (pa_cons (pe_call G2 hr rfl o2.mgf o2.kp o2.bd .nil pass0 (pa_cons (pv 0) (pa_cons (pv 1) pa_nil))) pa_nil))) (pa_cons (pe_un un_neg pe_int) pa_nil))) (pe_callTy cr_int rfl mi (by rfl) (pa_cons (pe_cmpR op_gt (pe_call G1 hr1 rfl o1.mgf o1.kp o1.bd .nil pass0 (pa_cons (pv 1) (pa_cons pe_int pa_nil))) pe_int (nomark _)) pa_nil)) (fun _ _ => rfl)))
      (pss_cons (ps_set (i := 7) nd rfl (Or.inl rfl) (pe_lst pa_nil))
      (pss_cons (ps_for PassesOwn.never rfl (pi_tup (pv 2)) (pg_name (i := 8) nd rfl (Or.inl rfl))
        (pss_cons (ps_set (i := 9) nd rfl (Or.inl rfl) (pe_lst pa_nil))
        (pss_cons (ps_for PassesOwn.never rfl (pi_range1 rfl mr (pa_cons (pe_call G1 hr1 rfl o1.mgf o1.kp o1.bd .nil pass0 (pa_cons (pv 1) (pa_cons (pe_op op_add (pe_call G3 hr1 rfl o3.mgf o3.kp o3.bd .nil pass0 (pa_cons (pv 8) (pa_cons (pv 3) pa_nil))) pe_int) pa_nil))) pa_nil)) (pg_name (i := 10) nd rfl (Or.inl rfl))
          (pss_cons (ps_set (i := 11) nd rfl (Or.inl rfl) (pe_lst pa_nil))
          (pss_cons (ps_for PassesOwn.never rfl (pi_range1 rfl mr (pa_cons (pv 8) pa_nil)) (pg_name (i := 12) nd rfl (Or.inl rfl))
            (pss_cons (ps_set (i := 13) nd rfl (Or.inl rfl) (pe_op op_add (pv 5) (pe_call G1 hr1 rfl o1.mgf o1.kp o1.bd .nil pass0 (pa_cons (pv 1) (pa_cons pe_int pa_nil)))))
            (pss_cons (ps_if (PW.pt (pw_and (pt_val (pv 4)) (pw_and1 (pt_cmpR op_eq (pe_call G1 hr1 rfl o1.mgf o1.kp o1.bd .nil pass0 (pa_cons (pv 1) (pa_cons pe_int pa_nil))) pe_int (nomark _)))))
              (pss_one (ps_set (i := 13) nd rfl (Or.inl rfl) (pe_ix ix_list (pe_lst (pa_cons (pe_un un_neg pe_int) (pa_cons (pe_un un_neg pe_int) (pa_cons (pe_un un_neg pe_int) (pa_cons (pv 6) pa_nil))))) (pe_call G1 hr1 rfl o1.mgf o1.kp o1.bd .nil pass0 (pa_cons (pv 1) (pa_cons pe_int pa_nil))) (fun _ _ => rfl)))) pss_nil)
            (pss_one (ps_expr (pe_bm PySem.F.plainAttrs_list PySem.F.slot_list_append PySem.F.type_list_append mt_append (pv 11) (pa_cons (pv 13) pa_nil)))))))
          (pss_one (ps_expr (pe_bm PySem.F.plainAttrs_list PySem.F.slot_list_append PySem.F.type_list_append mt_append (pv 9) (pa_cons (pe_callTy cr_tup rfl mt (by rfl) (pa_cons (pv 11) pa_nil)) pa_nil)))))))
        (pss_one (ps_expr (pe_bm PySem.F.plainAttrs_list PySem.F.slot_list_append PySem.F.type_list_append mt_append (pv 7) (pa_cons (pe_callTy cr_tup rfl mt (by rfl) (pa_cons (pe_callB (cr_sortS rfl hr.units) rfl ms PyProof.Rows.boot_sorted (pa_cons (pe_callTy (cr_setOfT rfl hr.units) rfl mse PyProof.Rows.boot_set (pa_cons (pv 9) pa_nil)) pa_nil)) pa_nil)) pa_nil)))))))
      (pss_one (ps_ret (pe_callTy cr_tup rfl mt (by rfl) (pa_cons (pv 7) pa_nil))))))), ?_⟩
    have hl3 := hok.l3
    -- far
    refine ⟨_, rfl, _, rfl, a, D, ns, rfl, ha, hD, fun v1 H1 f1 d1 => ⟨v1, rfl, by show 4 ≤ sizeLine; decide, fun l1 hl1 => ?_⟩⟩
    have g1 : Fm Non H1 (upd H1 l1 (.lst [.int 0, .int 0, .int 0, .int (if v1 < 0 then -v1 else v1)])) := .new hl1
    have n1 := d1.ne hl1
    refine ⟨_, rfl, D, 4, rfl, d1.fm g1 id, by decide, fun r2 H2 hr2 f2 d2 => ?_⟩
    obtain ⟨far, hfar⟩ := four 0 0 0 (if v1 < 0 then -v1 else v1) hr2
    refine ⟨l1, _, _, _, rfl, rfl, .of (f2.ob _ _ upd_same n1), atI_nat hfar, ?_⟩
    have F2 : Fm (isD D) H H2 := (f1.trans (g1.weak fun _ z => z.elim)).trans f2
    -- low
    refine ⟨_, rfl, _, rfl, _, rfl, a, D, ns, rfl, ha.fm F2, d2, fun v3 H3 f3 d3 => ⟨v3, rfl, _, _, rfl, rfl, _, rfl, by show 2 ≤ sizeLine; decide, fun l2 hl2 => ?_⟩⟩
    have g2 : Fm Non H3 (upd H3 l2 (.lst [.int (-1 - (if v3 < 0 then -v3 else v3)), .int (-4)])) := .new hl2
    have n2 := d3.ne hl2
    refine ⟨_, rfl, D, 6, rfl, d3.fm g2 id, by decide, fun r4 H4 hr4 f4 d4 => ⟨_, _, rfl, rfl, .inr ⟨_, rfl, ?_⟩⟩⟩
    obtain ⟨low, hlow⟩ : ∃ v : Int, atI ([.int (-1 - (if v3 < 0 then -v3 else v3)), .int (-4)] : List V) (if decide ((0 : Int) < (r4 : Int)) = true then 1 else 0) = some (.int v) := by
      generalize decide ((0 : Int) < (r4 : Int)) = bb
      cases bb with
      | true => exact ⟨_, atI_nat (j := 1) rfl⟩
      | false => exact ⟨_, atI_nat (j := 0) rfl⟩
    refine ⟨l2, _, _, _, rfl, rfl, .of (f4.ob _ _ upd_same n2), hlow, ?_⟩
    have F4 : Fm (isD D) H H4 := ((F2.trans f3).trans (g2.weak fun _ z => z.elim)).trans f4
    -- tables
    refine ⟨Nat.zero_le _, fun tl htl => ?_⟩
    have gt : Fm (isD D) H4 (upd H4 tl (.lst [])) := .new htl
    have ntl := d4.ne htl
    have htlH : H tl = none := F4.tr _ htl
    refine ⟨_, rfl, sc, rfl, ⟨_, .of ((F4.trans gt).tk _ _ hsc)⟩, for_tup (K := K) (a := sc) (xs := nV ws) (fun i σ Hc => ∃ (ts : List Addr) (Ls : List (List Row)) (x8 x9 x10 x11 x12 x13 : Option V), σ = [some (.ref a), some (.ref D), some (.ref sc), some (.int 2), some (.bl true), some (.int far), some (.int low), some (.ref tl), x8, x9, x10, x11, x12, x13] ∧ Fm (isD D) H Hc ∧ DrawsAt Hc D ∧
      Hc tl = some (.lst (ts.map V.ref)) ∧ Paired (TabT Hc) ts Ls ∧ Ls.length = i ∧ ∀ (j : Nat) rs, Ls[j]? = some rs → rs.length ≤ 2 ∧ ∀ r ∈ rs, r.length = wfOf ws j) ?_ ?_ ?_ ?_⟩
    · exact ⟨[], [], _, _, _, _, _, _, rfl, F4.trans gt, d4.fm (S := Non) (.new htl) id, upd_same, .nil, rfl, fun j rs h => by simp at h⟩
    · rintro i σ Hc _ ⟨_, _, _, _, _, _, _, _, _, f, _⟩
      exact .of (f.tk _ _ hsc)
    · rintro i x σ Hc hx ⟨ts, Ls, x8, x9, x10, x11, x12, x13, rfl, fc, dc, htc, hpt, hLl, hLa⟩
      obtain ⟨wd, hwd, rfl⟩ := nV_get hx
      have hil : i < ws.length := (List.getElem?_eq_some_iff.mp hwd).1
      have hwe : wfOf ws i = wd := by unfold wfOf; rw [List.getD_eq_getElem?_getD, hwd]; rfl
      have hw := hok.wid hil
      rw [hwe] at hw
      have htll : ts.length = Ls.length := Paired.length hpt
      -- rows = []
      refine ⟨Nat.zero_le _, fun rl hrl => ?_⟩
      have gr : Fm (isD D) Hc (upd Hc rl (.lst [])) := .new hrl
      have nrl := dc.ne hrl
      have hrlH : H rl = none := fc.tr _ hrl
      have ntr : tl ≠ rl := ne_of_none htc hrl
      have dcr := dc.fm (S := Non) (H' := upd Hc rl (.lst [])) (.new hrl) id
      have htr := gr.ob _ _ htc ntl
      have hpr : Paired (TabT (upd Hc rl (.lst []))) ts Ls := paired_map hpt fun _ _ z => z.tk gr.tk
      have frl : Fm (isD D) H (upd Hc rl (.lst [])) := fc.trans gr
      have hro : upd Hc rl (.lst []) rl = some (.lst []) := upd_same
      generalize hHr : upd Hc rl (.lst []) = Hr at dcr htr hpr frl hro ⊢
      refine ⟨_, rfl, _, rfl, _, rfl, wd, 2, rfl, by decide, _, _, rfl, rfl, D, 3, rfl, dcr, by decide, fun q Hq hq fq dq => ⟨q, rfl, by omega, by omega, ?_⟩⟩
      have fHq := frl.trans fq
      -- for k in range(..)
      refine for_it walk_r0 (fun j σ Hd => ∃ (qs : List (Addr × Row)) (x10 x11 x12 x13 : Option V), σ = [some (.ref a), some (.ref D), some (.ref sc), some (.int 2), some (.bl true), some (.int far), some (.int low), some (.ref tl), some (.int (wd : Int)), some (.ref rl), x10, x11, x12, x13] ∧ Fm (isD D) H Hd ∧ DrawsAt Hd D ∧ Hd tl = some (.lst (ts.map V.ref)) ∧ Paired (TabT Hd) ts Ls ∧
        Hd rl = some (.lst (qs.map fun z => V.ref z.1)) ∧ qs.length = j ∧ ∀ z ∈ qs, RowT Hd z.1 z.2 ∧ z.2.length = wd) ?_ ?_ ?_ ?_
      · exact ⟨[], _, _, _, _, rfl, fHq, dq, fq.ob _ _ htr ntl, paired_map hpr fun _ _ z => z.tk fq.tk, fq.ob _ _ hro nrl, rfl, fun z hz => by simp at hz⟩
      · intro _ _ _ _ _; trivial
      · rintro j x σ Hd0 Hd hj ⟨qs, x10, x11, x12, x13, rfl, fd', dd, htd, hpd, hrd, hql, hqa⟩ ⟨rfl, rfl⟩
        -- row = []
        refine ⟨Nat.zero_le _, fun wl hwl => ?_⟩
        have gw : Fm (isD D) Hd (upd Hd wl (.lst [])) := .new hwl
        have nwl := dd.ne hwl
        have hwlH : H wl = none := fd'.tr _ hwl
        have ntw : tl ≠ wl := ne_of_none htd hwl
        have nrw : rl ≠ wl := ne_of_none hrd hwl
        refine ⟨_, rfl, wd, rfl, by omega, by omega, for_it walk_r0 (fun c σ He => ∃ (vals : List Int) (x12 x13 : Option V), σ = [some (.ref a), some (.ref D), some (.ref sc), some (.int 2), some (.bl true), some (.int far), some (.int low), some (.ref tl), some (.int (wd : Int)), some (.ref rl), some (.int (j : Int)), some (.ref wl), x12, x13] ∧ Fm (isD D) H He ∧ Fm (fun x => x = D ∨ x = wl) Hd He ∧ DrawsAt He D ∧
          He wl = some (.lst (vals.map V.int)) ∧ vals.length = c) ?_ ?_ ?_ ?_⟩
        · exact ⟨[], _, _, rfl, fd'.trans gw, gw.weak fun _ z => .inl z, dd.fm (S := Non) (.new hwl) id, upd_same, rfl⟩
        · intro _ _ _ _ _; trivial
        · rintro c x σ He0 He hc ⟨vals, x12, x13, rfl, fe, fe2, de, hwe', hvl⟩ ⟨rfl, rfl⟩
          -- value
          refine ⟨_, rfl, _, rfl, D, 3, rfl, de, by decide, fun r5 H5 hr5 f5 d5 => ⟨_, _, rfl, rfl, ?_⟩⟩
          dsimp only
          refine seq_join (t1 := tIfS _ _ _) (fun σ Hf => ∃ v : Int, σ = [some (.ref a), some (.ref D), some (.ref sc), some (.int 2), some (.bl true), some (.int far), some (.int low), some (.ref tl), some (.int (wd : Int)), some (.ref rl), some (.int (j : Int)), some (.ref wl), some (.int (c : Int)), some (.int v)] ∧ Fm (isD D) He Hf ∧ DrawsAt Hf D) (fun R hR => ?_) ?_
          · refine ⟨_, rfl, _, rfl, iteT ?_⟩
            refine ⟨_, rfl, D, 3, rfl, d5, by decide, fun r6 H6 hr6 f6 d6 => ⟨rfl, _, rfl, ?_⟩⟩
            refine ite2 (fun _ => ?_) (fun _ => ?_)
            · refine ⟨_, rfl, _, rfl, _, rfl, _, rfl, by show 4 ≤ sizeLine; decide, fun l3 hl3 => ?_⟩
              have g3 : Fm Non H6 (upd H6 l3 (.lst [.int (-1), .int (-2), .int (-3), .int low])) := .new hl3
              have n3 := d6.ne hl3
              refine ⟨_, rfl, D, 4, rfl, d6.fm g3 id, by decide, fun r7 H7 hr7 f7 d7 => ?_⟩
              obtain ⟨v, hv⟩ := four (-1) (-2) (-3) low hr7
              refine ⟨l3, _, _, _, rfl, rfl, .of (f7.ob _ _ upd_same n3), atI_nat hv, ?_⟩
              exact hR _ _ ⟨v, rfl, ((f5.trans f6).trans (g3.weak fun _ z => z.elim)).trans f7, d7⟩
            · exact hR _ _ ⟨_, rfl, f5.trans f6, d6⟩
          · rintro σ Hf ⟨v, rfl, ff, df⟩
            have hwf := ff.ob _ _ hwe' nwl
            refine ⟨_, rfl, .inl ⟨rfl, _, SqL.of hwf⟩, _, rfl, wl, _, _, rfl, rfl, hwf, by rw [List.length_map, sizeLine_eq]; omega, ?_⟩
            refine ⟨vals ++ [v], _, _, rfl, Fm_up (fe.trans ff) hwf hwlH, (fe2.trans (ff.weak fun _ z => .inl z)).trans (.mut hwf (fun _ => lst_ne) (.inr rfl)), df.up hwf nwl, by rw [upd_same]; simp, by simp [hvl]⟩
        · rintro σ He ⟨vals, x12, x13, rfl, fe, fe2, de, hwe', hvl⟩
          have hvl : vals.length = wd := hvl
          have hre := fe2.ob _ _ hrd (by rintro (z | z); exact nrl z; exact nrw z)
          have hte := fe2.ob _ _ htd (by rintro (z | z); exact ntl z; exact ntw z)
          refine ⟨_, rfl, .inl ⟨rfl, _, SqL.of hre⟩, _, rfl, wl, _, rfl, .inl ⟨.of hwe', fun tp htp => ?_⟩⟩
          have gp : Fm Non He (upd He tp (.tup (vals.map V.int))) := .new htp
          have hre2 := gp.ob _ _ hre id
          refine ⟨rl, _, _, rfl, rfl, hre2, by rw [List.length_map, sizeLine_eq]; omega, ?_⟩
          have ga : Fm (fun x => x = rl) _ (upd (upd He tp (.tup (vals.map V.int))) rl (.lst ((qs.map fun z => V.ref z.1) ++ [.ref tp]))) := .mut hre2 (fun _ => lst_ne) rfl
          have tkk := gp.tk.trans ga.tk
          refine ⟨qs ++ [(tp, vals)], _, _, _, _, rfl, Fm_up (fe.trans (gp.weak fun _ z => z.elim)) hre2 hrlH, (de.fm gp id).up hre2 nrl, ga.ob _ _ (gp.ob _ _ hte id) ntr, paired_map hpd fun _ _ z => z.tk (fe2.tk.trans tkk), by rw [upd_same]; simp, by simp [hql], fun z hz => ?_⟩
          rcases List.mem_append.mp hz with hz | hz
          · exact ⟨(fe2.tk.trans tkk) _ _ (hqa z hz).1, (hqa z hz).2⟩
          · rw [List.mem_singleton.mp hz]
            exact ⟨ga.tk _ _ upd_same, hvl⟩
      · rintro σ Hd ⟨qs, x10, x11, x12, x13, rfl, fd', dd, htd, hpd, hrd, hql, hqa⟩
        have hql : qs.length = q := hql
        refine ⟨_, rfl, .inl ⟨rfl, _, SqL.of htd⟩, _, rfl, rl, qs, rfl, .of hrd, fun z hz => .of (hqa z hz).1, by omega, fun sa L hsa hL1 hL2 => ?_⟩
        have gs : Fm Non Hd (upd Hd sa (SetTO P w sa L)) := .new hsa
        refine ⟨sa, L, rfl, upd_same, fun z hz => .of (gs.tk _ _ (hqa z (hL1 z hz)).1), fun z hz e => ?_, fun qs2 lp hp2 hnd hlp => ?_⟩
        · have := (hqa z (hL1 z hz)).2
          rw [e] at this; simp at this; omega
        · have gl : Fm Non _ (upd (upd Hd sa (SetTO P w sa L)) lp (.lst (qs2.map fun z => V.ref z.1))) := .new hlp
          refine ⟨lp, _, rfl, .inl ⟨.of upd_same, fun tp htp => ?_⟩⟩
          have gp : Fm Non _ (upd (upd (upd Hd sa (SetTO P w sa L)) lp (.lst (qs2.map fun z => V.ref z.1))) tp (.tup (qs2.map fun z => V.ref z.1))) := .new htp
          have g := (gs.trans gl).trans gp
          have htd2 := g.ob _ _ htd id
          refine ⟨tl, _, _, rfl, rfl, htd2, by rw [List.length_map, sizeLine_eq]; omega, ?_⟩
          have ga : Fm (fun x => x = tl) _ (upd (upd (upd (upd Hd sa (SetTO P w sa L)) lp (.lst (qs2.map fun z => V.ref z.1))) tp (.tup (qs2.map fun z => V.ref z.1))) tl (.lst (ts.map V.ref ++ [.ref tp]))) := .mut htd2 (fun _ => lst_ne) rfl
          have tkk := g.tk.trans ga.tk
          have mem2 : ∀ z ∈ qs2, z ∈ qs := fun z hz => hL1 z (hp2.mem_iff.mp hz)
          have len2 : (qs2.map (·.2)).length ≤ qs.length := by
            have := nodup_le hnd (m := qs.map (·.2)) fun r hr => by
              obtain ⟨z, hz, rfl⟩ := List.mem_map.mp hr
              exact List.mem_map.mpr ⟨z, mem2 z hz, rfl⟩
            rw [List.length_map] at this ⊢
            simpa using this
          refine ⟨ts ++ [tp], Ls ++ [qs2.map (·.2)], _, _, _, _, _, _, rfl, Fm_up (fd'.trans (g.weak fun _ z => z.elim)) htd2 htlH, (dd.fm g id).up htd2 ntl, by rw [upd_same]; simp, Paired.snoc (paired_map hpd fun _ _ z => z.tk tkk) ⟨qs2, ga.tk _ _ upd_same, fun z hz => tkk _ _ (hqa z (mem2 z hz)).1, rfl⟩, by simp [hLl], fun j rs hj => ?_⟩
          by_cases hjl : j < Ls.length
          · rw [List.getElem?_append_left hjl] at hj
            exact hLa j rs hj
          · rw [List.getElem?_append_right (by omega)] at hj
            have hj0 : j - Ls.length = 0 := by
              by_cases h : j - Ls.length = 0
              · exact h
              · rw [List.getElem?_eq_none (by simp; omega)] at hj; cases hj
            rw [hj0] at hj
            have hj := Option.some.inj hj
            subst hj
            have hji : j = i := by omega
            refine ⟨by omega, fun r hr => ?_⟩
            obtain ⟨z, hz, rfl⟩ := List.mem_map.mp hr
            rw [hji, hwe]
            exact (hqa z (mem2 z hz)).2
    · rintro σ Hc ⟨ts, Ls, x8, x9, x10, x11, x12, x13, rfl, fc, dc, htc, hpt, hLl, hLa⟩
      refine ⟨_, rfl, tl, _, rfl, .inl ⟨.of htc, fun b hb => ?_⟩⟩
      have gb : Fm Non Hc (upd Hc b (.tup (ts.map V.ref))) := .new hb
      exact k b Ls _ ⟨ts, upd_same, paired_map hpt fun _ _ z => z.tk gb.tk⟩ ⟨by rw [hLl, nV_len], hLa⟩ (fc.trans (gb.weak fun _ z => z.elim)) (dc.fm gb id)
end
end Nor
end
section
/-! are_within. -/
namespace Nor
open PySem L2 L2.NW
section
variable {P : Program} {w : World} {K : PySem.W.Frag} {mg : Str → Option Value} {base : Heap} {H H' : Hp}
abbrev nAre : List Str := ["_law_one", "_law_other", "_law_k", "_law_row"]
theorem scAre : FnScope nAre ["_law_one", "_law_other"] (defScope sAreWithin) := ⟨rfl, rfl, rfl, by decide +kernel, rfl, by decide +kernel, by decide +kernel⟩
/-- a store or None -/
def OptAt (H : Hp) (v : V) : Option (List (List Row)) → Prop
  | none => v = .non
  | some L => ∃ a, v = .ref a ∧ StoreAt H a L
theorem OptAt.tk {H H' : Hp} {v : V} : ∀ {o : Option (List (List Row))}, OptAt H v o → TK H H' → OptAt H' v o
  | none, h, _ => h
  | some _, ⟨a, h1, h2⟩, t => ⟨a, h1, h2.tk t⟩
def WithinO : Option (List (List Row)) → Option (List (List Row)) → Prop
  | _, none => True
  | none, some _ => False
  | some L, some M => L.length = M.length ∧ ∀ (t : Nat) l m, L[t]? = some l → M[t]? = some m → ∀ r ∈ l, r ∈ m
def spAre : Sp := fun vs H Q _ => ∃ (v u : V) (x y : Option (List (List Row))), vs = [v, u] ∧ OptAt H v x ∧ OptAt H u y ∧ WithinO x y ∧ (∀ L, x = some L → L.length ≤ 100 ∧ ∀ l ∈ L, l.length ≤ 1000) ∧ ∀ H', Fm Non H H' → Q (.bl true) H'
theorem tab_paired {H : Hp} {m : List Row} {e : Addr} (h : TabT H e m) : ∃ zs : List V, Tu H e zs ∧ Paired (fun z (s : List Int) => ∃ a, z = V.ref a ∧ Tu H a (s.map V.int)) zs m := by
  obtain ⟨qs, h1, h2, rfl⟩ := h
  refine ⟨_, h1, ?_⟩
  clear h1
  induction qs with
  | nil => exact .nil
  | cons q qs ih => exact .cons ⟨q.1, rfl, h2 q List.mem_cons_self⟩ (ih fun z hz => h2 z (List.mem_cons_of_mem _ hz))
theorem ok_are {f : Addr} {fd : FuncData} (F : Fun K "_law_are_within" "_law_are_within" sAreWithin f fd) (ml : mg "len" = none) (mr : mg "range" = none) : FnOk P w K mg base CX0 1 f fd ["_law_one", "_law_other"] spAre := by
  refine F.ok scAre (fun vs H Q E h => ?_) (fun cdv Ar outer sh H vs Q E hr h => ?_)
  · obtain ⟨v, u, x, y, rfl, _⟩ := h
    rfl
  · obtain ⟨v, u, x, y, rfl, hv, hu, hw, hs, k⟩ := h
    have nd := scAre.nd
    refine ⟨_, pss_cons (ps_if (pt_cmp (pc_isN (pv 1)) rfl) (pss_one (ps_ret pe_bl)) pss_nil)
      (pss_cons (ps_if (pt_cmp (pc_isN (pv 0)) rfl) (pss_one (ps_ret pe_bl)) pss_nil)
      (pss_cons (ps_for PassesOwn.never rfl (pi_range1 rfl mr (pa_cons (pe_callB cr_lenQ (by rfl) ml PySem.boot_len (pa_cons (pv 0) pa_nil)) pa_nil)) (pg_name (i := 2) nd rfl (Or.inr rfl))
        (pss_one (ps_if (pt_cmpR op_gt (pe_callB cr_lenQ (by rfl) ml PySem.boot_len (pa_cons (pe_lc (own := [("_law_row", 3)]) (g := gName 3) (tt := tTest (tOp (rInRows K) (tVar 3) (tOp (rIxT K) (tVar 1) (tVar 2)))) rfl nd (pi_tup (pe_ix ix_tup (pv 0) (pv 2) (fun _ _ => rfl))) (blkOk_by (N := nAre) (sc := defScope sAreWithin) (by decide +kernel)) (fun _ _ _ _ _ => pg_name (i := 3) nd rfl (Or.inl rfl))
            (fun _ _ _ _ _ => pts_one (pt_cmpR (op_notInRows hr.units) (pv 3) (pe_ix (r := rIxT K) ix_tup (pv 1) (pv 2) (fun _ _ => rfl)) rfl)) (fun _ _ _ _ _ => pv 3)) pa_nil)) pe_int (nomark _)) (pss_one (ps_ret pe_bl)) pss_nil)))
      (pss_one (ps_ret pe_bl)))), ?_⟩
    cases y with
    | none =>
      cases hu
      exact ⟨_, rfl, _, rfl, iteT (k H .refl)⟩
    | some M =>
      obtain ⟨b, rfl, hb⟩ := hu
      refine ⟨_, rfl, _, rfl, iteF ?_⟩
      cases x with
      | none => exact hw.elim
      | some L =>
        obtain ⟨a, rfl, ha⟩ := hv
        obtain ⟨hlen, hsub⟩ := hw
        obtain ⟨hL1, hL2⟩ := hs L rfl
        obtain ⟨es, hes, hpe⟩ := ha
        obtain ⟨fs, hfs, hpf⟩ := hb
        have hel : es.length = L.length := Paired.length hpe
        refine ⟨_, rfl, _, rfl, iteF ?_⟩
        refine ⟨_, rfl, a, _, rfl, .inr (.of hes), L.length, (by rw [List.length_map, hel]), by omega, by omega, for_it walk_r0 (fun i σ Hc => ∃ x2, σ = [some (.ref a), some (.ref b), x2, none] ∧ Fm Non H Hc) ?_ ?_ ?_ ?_⟩
        · exact ⟨_, rfl, .refl⟩
        · intro _ _ _ _ _; trivial
        · rintro t x σ Hc0 Hc ht ⟨x2, rfl, fc⟩ ⟨rfl, rfl⟩
          have ht : t < L.length := ht
          obtain ⟨l, hl⟩ : ∃ l, L[t]? = some l := ⟨_, List.getElem?_eq_getElem ht⟩
          obtain ⟨m, hm⟩ : ∃ m, M[t]? = some m := ⟨_, List.getElem?_eq_getElem (by omega)⟩
          obtain ⟨e, he, hte⟩ := paired_at2 hpe hl
          obtain ⟨g, hg, htg⟩ := paired_at2 hpf hm
          obtain ⟨qs, hq1, hq2, hq3⟩ := hte
          obtain ⟨zs, hz1, hz2⟩ := tab_paired htg
          have hql : qs.length = l.length := by have := congrArg List.length hq3; simpa using this
          have hll := hL2 l (List.mem_of_getElem? hl)
          have ge : (es.map V.ref)[t]? = some (.ref e) := by rw [List.getElem?_map, he]; rfl
          have gg : (fs.map V.ref)[t]? = some (.ref g) := by rw [List.getElem?_map, hg]; rfl
          refine ⟨_, rfl, _, rfl, a, _, _, _, rfl, rfl, .of (fc.tk _ _ hes), atI_nat ge, e, rfl, ⟨_, .of (fc.tk _ _ hq1)⟩, fun D hD => ?_⟩
          refine lc_accG (walk_tupR (K := K) (b := e) (qs := qs)) (S := Non) (fun i acc H' => acc = []) (by omega) hD id (fun H' f => .of (f.tk _ _ (fc.tk _ _ hq1))) (fun i acc H2 H3 e _ => e) rfl ?_ ?_
          · rintro i x acc H2 H3 hi f rfl _ ⟨rfl, z, hz, rfl⟩ Qt Qf kt kf
            have hzq := List.mem_of_getElem? hz
            have tkk := fc.tk.trans f.tk
            refine ⟨rfl, _, rfl, _, rfl, _, rfl, b, _, _, _, rfl, rfl, .of (tkk _ _ hfs), atI_nat gg, z.2, g, zs, m, ⟨z.1, rfl, .of (tkk _ _ (hq2 z hzq))⟩, rfl, .of (tkk _ _ hz1), paired_map hz2 fun _ _ ⟨a, h1, h2⟩ => ⟨a, h1, .of (tkk _ _ h2)⟩, _, rfl, ?_⟩
            have hin : z.2 ∈ m := hsub t l m hl hm z.2 (by rw [← hq3]; exact List.mem_map.mpr ⟨z, hzq, rfl⟩)
            rw [decide_eq_true hin]
            exact iteF (kf _ .refl rfl)
          · rintro acc H2 f hl2 hd rfl
            refine ⟨D, _, rfl, .inl (.of hd), _, _, rfl, rfl, _, rfl, ?_⟩
            exact iteF ⟨_, rfl, fc.trans f⟩
        · rintro σ Hc ⟨x2, rfl, fc⟩
          exact k Hc fc
end
end Nor
end
section
/-! set of a tuple of tuples. -/
namespace L2.NW
open PySem PySem.Spec PyProof.Rows
/-- a new set -/
abbrev newSetO (w : World) : Obj := { cls := .type "set", dict := none, data := .set #[] 0 (.fresh 0 0 (!w.params.followText "set-order")) }
section
variable {P : Program} {w : World} {A : Around} {E : Value → Shared → Prop} {s : Shared}
set_option maxHeartbeats 3200000 in
/-- set(t), t a tuple of tuples -/
theorem set_tuple_tups {l : Addr} {items : Array Value} (ks : List (Addr × List Int)) {Q : Value → Shared → Prop} (hh : A.handled = none) (hl : s.heap.IsTuple l items) (hit : items.toList = ks.map fun p => Value.ref p.1)
    (hk : ∀ p ∈ ks, IsT P w s.heap p.2 p.1) (hfew : ks.length < 64) (hu : A.units + 3 < cLine)
    (h : ∀ (h' : Heap) (tk : Nat) L es ep t, SetTR P w h' s.heap.objs.size L es ep t → Got ks ks.length L → (∀ b o, s.heap.get? b = some o → h'.get? b = some o) → Q (.ref s.heap.objs.size) { s with heap := h', toks := tk }) :
    wpAny (model P w) A (call (.type "set") [.ref l]) Q E s := by
  have hisz : items.size = ks.length := by
    have q := congrArg List.length hit
    rw [Array.length_toList, List.length_map] at q
    exact q
  obtain ⟨c, tl, hmro⟩ := F.called_set.mro
  have hmade := F.called_set.made
  have hsub := F.called_set.sub
  refine wpAny_call (codeAny_of_tree ?_)
  show wpAny _ _ (callAny (.type "set") _) _ _ _
  refine wpAny_pure ⟨Code.quiet_builtin _ (by decide +kernel), codeAny_builtin F.entry_type_call ?_⟩
  rw [Around.under_plain (weight_type_call_type "set" [.ref l] []) rfl]
  have h1 := F.called_set.notType
  have h2 := F.called_set.canCreate
  have hct := F.typeCall_set_1 (.ref l)
  repeat (any_goals (first | assumption | wp_step))

  refine codeAny_mono (code_set_led1 (.ref l) (E := E) (Q₁ := fun obj s₁ => obj = .ref s.heap.objs.size ∧ s₁ = { s with heap := s.heap.push (newSetO w) }) ⟨rfl, rfl⟩) fun r s₁ hr => ?_
  cases r with
  | error e => exact hr
  | ok fl =>
    cases fl with
    | ret obj =>
      obtain ⟨rfl, rfl⟩ := hr
      have hS : (s.heap.push (newSetO w)).get? s.heap.objs.size = some (newSetO w) := Heap.get?_push_size _ rfl
      have hT : Shared.TypeIs { s with heap := s.heap.push (newSetO w) } (.ref s.heap.objs.size) "set" := ⟨_, hS, rfl⟩
      have hli := F.called_set.init.lookup
      have hbi := F.called_set.init.bind (.ref s.heap.objs.size)
      repeat (any_goals (first | assumption | wp_step))

      refine codeAny_mono (codeAny_call_builtin (R := wants (fun r s₂ => r = .none ∧ ∃ h' tk L es ep t, s₂ = { s with heap := h', toks := tk } ∧ SetTR P w h' s.heap.objs.size L es ep t ∧ Got ks ks.length L ∧
          (∀ b o, s.heap.get? b = some o → h'.get? b = some o)) E) F.called_set.init.plain F.entry_set_init (check_set_init_1 hT ?_)) fun r₂ s₂ hr₂ => ?_
      · obtain ⟨ol, hol, hcl, nl, hdl⟩ := hl
        obtain ⟨ocls, odict, odata, oslots⟩ := ol
        simp only at hcl hdl
        subst hcl; subst hdl
        have hol' : (s.heap.push (newSetO w)).get? l = some { cls := .type "tuple", dict := odict, data := .seq items nl, slots := oslots } := Heap.get?_push_of_some _ hol
        have hsls := F.sub_tuple_set
        have hslf := F.sub_tuple_frozenset
        have hne : (Value.type "tuple" == Value.type "dict") = false := by decide
        have hl1 : (s.heap.push (newSetO w)).IsTuple l items := ⟨_, hol', rfl, nl, rfl⟩
        unfold Builtin.«set.__init__» noKeywords Builtin.Frozenset.updateFrom
        generalize hPI : pyIter = PI
        wp_walk
        subst hPI

        refine wpAny_pyIter_tuple hl1 ?_
        refine wpAny_bind (wpAny_runValue ?_)
        have hlS : l < s.heap.objs.size := Heap.lt_size hol
        have hh3 : A.in1.in1.in1.handled = none := by simp [hh]
        have hz1 : (s.heap.push (newSetO w)).objs.size = s.heap.objs.size + 1 := Heap.size_push ..
        have hneI : l ≠ (s.heap.push (newSetO w)).objs.size := by
          rw [Heap.size_push]; exact Nat.ne_of_lt (Nat.lt_succ_of_lt hlS)
        have hSf : s.heap.objs.size ∉ [(s.heap.push (newSetO w)).objs.size, l] := by
          rw [Heap.size_push]; simp only [List.mem_cons, List.mem_singleton, List.not_mem_nil, or_false, not_or]
          exact ⟨Nat.ne_of_lt (Nat.lt_succ_self _), Nat.ne_of_gt hlS⟩
        have hval : ∀ (i : Nat) (v : Value), items[i]? = some v → ∃ p, ks[i]? = some p ∧ v = .ref p.1 := fun i v hv => by
          have q : items.toList[i]? = some v := by rw [Array.getElem?_toList]; exact hv
          rw [hit, List.getElem?_map] at q
          cases hq : ks[i]? with
          | none => rw [hq] at q; cases q
          | some p =>
            rw [hq] at q
            exact ⟨p, rfl, (Option.some.inj q).symm⟩
        have none_of : ∀ b, s.heap.objs.size ≤ b → s.heap.get? b = none := fun b hb => by
          cases q : s.heap.get? b with
          | none => rfl
          | some o => exact absurd (Nat.lt_of_lt_of_le (Heap.lt_size q) hb) (Nat.lt_irrefl _)
        refine set_update_tups ((Walks.tuple hh3 _ l hneI items).toS) s.heap.objs.size
          hSf ks hisz hfew hval s.heap hk (none_of _ (Nat.le_refl _)) (fun b hb => none_of b (by
            rw [List.mem_singleton.mp hb, Heap.size_push]
            exact Nat.le_succ _)) hu (items.size - 0) 0 _ (by omega) (Nat.zero_le _)
          ⟨⟨_, Heap.get?_push_size _ rfl, rfl, rfl⟩, (hl1.push _)⟩ (fun b o e => Heap.get?_push_of_some _ (Heap.get?_push_of_some _ e)) ?hS0 ?hR
        case hS0 =>
          have hget : ((s.heap.push (newSetO w)).push { cls := .type "tuple_iterator", data := .fields #[.ref l, .int 0 0] }).get? s.heap.objs.size
              = some (newSetO w) := Heap.get?_push_of_some _ hS
          exact ⟨[], #[], 0, _, setTR_fresh hget, Got.zero ks⟩
        case hR =>
          intro s' L es ep t hm hS' g' hkp
          obtain ⟨h', g2, d', tk', os'⟩ := s'
          have eg : g2 = s.gens := hm.gens
          have ed : d' = s.drawn := hm.drawn
          have eo : os' = s.os := hm.os
          subst eg; subst ed; subst eo
          show wpAny _ _ _ _ _ _
          refine wpAny_pure ?_
          show wpAny _ _ (ret Value.none) _ _ _
          rw [hisz] at g'
          exact wpAny_pure ⟨rfl, h', tk', L, es, ep, t, rfl, hS', g', hkp⟩

      · cases r₂ with
        | error e => exact hr₂
        | ok fl₂ =>
          cases fl₂ with
          | ret r =>
            obtain ⟨rfl, h', tk, L, es, ep, t, rfl, hS', g', hk'⟩ := hr₂
            repeat (any_goals (first | assumption | wp_step))
            exact h _ _ _ _ _ _ hS' g' hk'
          | _ => exact hr₂.elim
    | _ => exact hr.elim
end
section
variable {X : Cx}
def rSetOfU (K : PySem.W.Frag) (P : Program) (w : World) : List V → Hp → VK → Prop := fun xs H Q => ∃ (l : Addr) (ks : List (Addr × List Int)), xs = [V.ref l] ∧ SqT K H l (ks.map fun p => V.ref p.1) ∧ (∀ p ∈ ks, SqT K H p.1 (p.2.map V.int)) ∧ ks.length < 64 ∧
  ∀ a L, H a = none → (∀ p ∈ L, p ∈ ks) → (∀ p ∈ ks, p.2 ∈ L.map (·.2)) → Q (.ref a) (upd H a (SetTO P w a L))
theorem cr_setOfU (hc : X.calm = true) (hu : X.A.units + 64 < cLine) : CallR X (.type "set") (rSetOfU X.K X.prog X.w) := by
  intro pins s σ H xs us Q I r h
  obtain ⟨l, ks, rfl, hl, hk, hf, q⟩ := h
  rw [Vals.ref1 r]
  obtain ⟨its, rv, pl, hz⟩ := I.tuple hl
  refine set_tuple_tups (P := X.prog) (w := X.w) ks (I.ok.hd hc) pl (by simpa using refs_of_vals rv) (fun p hp => I.isT (hk p hp)) hf (by omega) fun h' tk L es ep t R g k => ?_
  exact ⟨.ref s.heap.objs.size, upd H s.heap.objs.size (SetTO X.prog X.w s.heap.objs.size L), I.laid (t' := tk) k (Nat.le_refl _) (setTO_new R.t0), rfl, q _ L (I.hok.fresh (Nat.le_refl _)) (fun p hp => List.mem_of_mem_take (g.sub p hp)) fun p hp => g.all p (by rw [List.take_length]; exact hp)⟩
end
end L2.NW
end
section
/-! What the law asks, in plain words. -/
namespace Nor
open PySem L2 L2.NW
theorem sto_wf {ws : List Nat} {m : Nat} {L : List (List Row)} (h : StoOk ws m L) : WF ws.length (wfOf ws) (stOf L) := by
  rintro t r ⟨rs, h1, h2⟩
  refine ⟨?_, (h.all t rs h1).2 r h2⟩
  rw [← h.len]
  exact (List.getElem?_eq_some_iff.mp h1).1
abbrev pbOf (ws : List Nat) (dl : List Dep) (L : List (List Row)) : PB := ⟨ws.length, wfOf ws, dl, stOf L⟩
theorem pb_ok {ws order : List Nat} {dl : List Dep} {L : List (List Row)} (hok : SchOk ws) (perm : order.Perm (List.range ws.length)) (good : ∀ d ∈ dl, DepGood ws order d) (tame : tameB ws order dl = true) (few : dl.length ≤ 5) (sto : StoOk ws 4 L) : (pbOf ws dl L).Ok := by
  have l3 := hok.l3
  obtain ⟨B, F, rk, tm⟩ := tame_of hok perm good fun y hy => by
    have := of_decide_eq_true (List.all_eq_true.mp tame y hy)
    omega
  have dok : ∀ d ∈ dl, DepOk ws.length (wfOf ws) d := fun d hd => (good d hd).1
  have wf0 := sto_wf sto
  refine ⟨l3, hok.l1, fun t ht => hok.wid ht, dok, fun d hd => (good d hd).2.1, by show dl.length ≤ 100; omega, wf0, ?_⟩
  intro k T hs
  have gs : Gh ws.length (wfOf ws) dl (fun _ => 4) 0 (stOf L) (fun t => L.getD t []) := gh_start wf0 (fun t => by
    show (L.getD t []).length ≤ 4
    by_cases h : t < L.length
    · have e : L[t]? = some (L.getD t []) := by simp [h]
      exact (sto.all t _ e).1
    · have : L.getD t [] = [] := by simp [h]
      rw [this]; exact Nat.zero_le _) fun t r => by
    constructor
    · rintro ⟨rs, h1, h2⟩
      have : L.getD t [] = rs := by simp [List.getD_eq_getElem?_getD, h1]
      rw [this]; exact h2
    · intro h
      by_cases hl : t < L.length
      · exact ⟨L.getD t [], by simp [hl], h⟩
      · have : L.getD t [] = [] := by simp [hl]
        rw [this] at h; cases h
  obtain ⟨base, g⟩ := gh_steps dok wf0 gs hs
  refine ⟨?_, fun t l ht hn hl => gh_rows dok tm g ht hn hl⟩
  have := gh_count dok tm g
  have e : (pbOf ws dl L).n = ws.length := rfl
  omega
/-- what sure_rows may answer -/
def Res (A : PB) : Option (List (List Row)) → Prop
  | none => ∃ k U, Steps A.wf A.dl k A.T0 U ∧ Clash A.dl U
  | some L => ∃ k U, Steps A.wf A.dl k A.T0 U ∧ (∀ d ∈ A.dl, Sat A.wf U d) ∧ L.length = A.n ∧ (∀ t r, stOf L t r ↔ U t r ∧ ∀ v ∈ r, 0 ≤ v) ∧ ∀ rs ∈ L, rs.length ≤ 64
theorem within_of {n : Nat} {wf : Nat → Nat} {d1 d2 : List Dep} {T1 T2 : Store} {x y : Option (List (List Row))} {h : Int → Int} (ok1 : PB.Ok ⟨n, wf, d1, T1⟩) (ok2 : PB.Ok ⟨n, wf, d2, T2⟩) (sub : ∀ d ∈ d1, d ∈ d2) (fx : Fixes h) (hm : Hom h T1 T2) (r1 : Res ⟨n, wf, d1, T1⟩ x) (r2 : Res ⟨n, wf, d2, T2⟩ y) : WithinO x y := by
  cases y with
  | none => cases x <;> trivial
  | some M =>
    obtain ⟨k2, U2, s2, sat, m1, m2, _⟩ := r2
    cases x with
    | none =>
      obtain ⟨k1, U1, s1, cl⟩ := r1
      exact absurd cl (below ok1.dep ok2.dep sub ok1.wf0 ok2.wf0 fx hm s1 s2 sat).1
    | some L =>
      obtain ⟨k1, U1, s1, _, l1, l2, _⟩ := r1
      have b := (below ok1.dep ok2.dep sub ok1.wf0 ok2.wf0 fx hm s1 s2 sat).2
      refine ⟨l1.trans m1.symm, fun t l m hl hm' r hr => ?_⟩
      obtain ⟨h1, h2⟩ := (l2 t r).mp ⟨l, hl, hr⟩
      obtain ⟨m0, h3, h4⟩ := (m2 t r).mpr ⟨b t r h1 h2, h2⟩
      rw [hm'] at h3
      rw [Option.some.inj h3]; exact h4
/-- one value hidden -/
def hideV (a low : Int) (v : Int) : Int := if v = a then low else v
theorem hide_hom {T U : Store} {a low : Int} (h0 : low < 0) (hl : ∀ t r v, U t r → v ∈ r → low < v) (hh : ∀ t r, T t r → ∃ r0, U t r0 ∧ r = r0.map (hideV a low)) : ∃ h, Fixes h ∧ Hom h T U := by
  refine ⟨fun v => if v = low then a else v, fun v hv => ?_, fun t r hr => ?_⟩
  · show (if v = low then a else v) = v
    rw [if_neg (by omega)]
  · obtain ⟨r0, h1, rfl⟩ := hh t r hr
    have : (r0.map (hideV a low)).map (fun v => if v = low then a else v) = r0 := by
      rw [List.map_map]
      have : r0.map ((fun v => if v = low then a else v) ∘ hideV a low) = r0.map id := List.map_congr_left fun v hv => by
        show (if hideV a low v = low then a else hideV a low v) = v
        have := hl t r0 v h1 hv
        unfold hideV
        by_cases e : v = a
        · rw [if_pos e, if_pos rfl, e]
        · rw [if_neg e, if_neg (by omega)]
      rw [this, List.map_id]
    rw [this]; exact h1
section
variable {P : Program} {w : World} {K : PySem.W.Frag} {mg : Str → Option Value} {base : Heap}
/-- sure_rows, at any problem -/
def spSureA : Sp := fun vs H Q _ => ∃ (A : PB) (sc bk st : Addr) (L : List (List Row)), A.Ok ∧ vs = [.ref sc, .ref bk, .ref st] ∧ Sta A H sc bk ∧ StoreAt H st L ∧ L0 A L ∧ ∀ (v : V) (x : Option (List (List Row))) H', Fm Non H H' → OptAt H' v x → Res A x → Q v H'
theorem ok_sureA {f : Addr} {fd : FuncData} (G : ∀ A : PB, A.Ok → FnOk P w K mg base CX0 9 f fd ["scheme", "book", "store"] (spSure A)) : FnOk P w K mg base CX0 9 f fd ["scheme", "book", "store"] spSureA := by
  have conv : ∀ vs H Q E, spSureA vs H Q E → ∃ A : PB, A.Ok ∧ spSure A vs H Q E := by
    rintro vs H Q E ⟨A, sc, bk, st, L, ok, rfl, h1, h2, h3, k⟩
    refine ⟨A, ok, sc, bk, st, L, rfl, h1, h2, h3, fun H' k' U f hs hc => k .non none H' f rfl ⟨k', U, hs, hc⟩, fun H' a L' k' U f hs hsat hst hl hr hf => k (.ref a) (some L') H' f ⟨a, rfl, hst⟩ ⟨k', U, hs, hsat, hl, hr, hf⟩⟩
  refine ⟨fun vs H Q E h => ?_, fun A' outer s H args us vs Q E hr he hb hv h => ?_⟩
  · obtain ⟨A, ok, h⟩ := conv vs H Q E h
    exact (G A ok).len vs H Q E h
  · obtain ⟨A, ok, h⟩ := conv vs H Q E h
    exact (G A ok).run A' outer s H args us vs Q E hr he hb hv h
end
end Nor
end
section
/-! The law. -/
namespace Nor
open PySem L2 L2.NW
section
variable {P : Program} {w : World} {K : PySem.W.Frag} {mg : Str → Option Value} {base : Heap} {H H' : Hp}
abbrev nLaw : List Str := ["_law_script", "_law_draws_here", "_law_scheme_here", "_law_order", "_law_book_here", "_law_store_here", "_law_more", "_law_joined", "_law_longer", "_law_sure", "_law_hidden", "_law_low", "_law_rows", "_law_row", "_law_tables", "_law_k", "_law_value"]
theorem scLaw : FnScope nLaw ["_law_script"] (defScope sLaw) := ⟨rfl, rfl, rfl, by decide +kernel, rfl, by decide +kernel, by decide +kernel⟩
/-- the law: a list of ints in, True out -/
def spLaw (K : PySem.W.Frag) : Sp := fun vs H Q _ => ∃ (a : Addr) (ns : List Int), vs = [.ref a] ∧ SqL K H a (ns.map V.int) ∧ ns.length ≤ 63 ∧ ∀ H', Q (.bl true) H'
theorem cat_any {a b : Addr} {xs ys : List V} {Q : VK} (ha : Tu H a xs) (hb : Tu H b ys) (hz : xs.length + ys.length ≤ 1000) (q : ∀ p H', Fm Non H H' → Tu H' p (xs ++ ys) → Q (.ref p) H') : rCatA K (.ref a) (.ref b) H Q := by
  refine ⟨a, b, xs, ys, rfl, rfl, .of ha, .of hb, by rw [sizeLine_eq]; omega, fun e => ?_, fun _ e => ?_, fun _ _ p hp => ?_⟩
  · subst e
    exact q b H .refl hb
  · subst e
    exact q a H .refl (by rw [List.append_nil]; exact ha)
  · exact q p _ (.new hp) upd_same
theorem srt_rows {ks : List (Addr × List Int)} (hk : ∀ z ∈ ks, RowT H z.1 z.2) (hne : ∀ z ∈ ks, z.2 ≠ []) {Q : VK}
    (q : ∀ (tp : Addr) (qs : List (Addr × Row)) H', Fm Non H H' → Tu H' tp (qs.map fun z => V.ref z.1) → (∀ z ∈ qs, RowT H' z.1 z.2) → (qs.map (·.2)).length ≤ ks.length → (∀ z ∈ qs, z ∈ ks) → (∀ z ∈ ks, z.2 ∈ qs.map (·.2)) → Q (.ref tp) H')
    (sa : Addr) (L : List (Addr × List Int)) (hsa : H sa = none) (hL1 : ∀ p ∈ L, p ∈ ks) (hL2 : ∀ p ∈ ks, p.2 ∈ L.map (·.2)) : rSortS K P w [.ref sa] (upd H sa (SetTO P w sa L)) fun v H1 => rTup K [v] H1 Q := by
  have gs : Fm Non H (upd H sa (SetTO P w sa L)) := .new hsa
  refine ⟨sa, L, rfl, upd_same, fun z hz => .of (gs.tk _ _ (hk z (hL1 z hz))), fun z hz => hne z (hL1 z hz), fun qs lp hp2 hnd hlp => ?_⟩
  have gl : Fm Non _ (upd (upd H sa (SetTO P w sa L)) lp (.lst (qs.map fun z => V.ref z.1))) := .new hlp
  refine ⟨lp, _, rfl, .inl ⟨.of upd_same, fun tp htp => ?_⟩⟩
  have gp : Fm Non _ (upd (upd (upd H sa (SetTO P w sa L)) lp (.lst (qs.map fun z => V.ref z.1))) tp (.tup (qs.map fun z => V.ref z.1))) := .new htp
  have g := (gs.trans gl).trans gp
  have mem2 : ∀ z ∈ qs, z ∈ ks := fun z hz => hL1 z (hp2.mem_iff.mp hz)
  refine q tp qs _ g upd_same (fun z hz => g.tk _ _ (hk z (mem2 z hz))) ?_ mem2 fun z hz => ?_
  · have := nodup_le hnd (m := ks.map (·.2)) fun r hr => by
      obtain ⟨z, hz, rfl⟩ := List.mem_map.mp hr
      exact List.mem_map.mpr ⟨z, mem2 z hz, rfl⟩
    simpa using this
  · obtain ⟨y, hy, e⟩ := List.mem_map.mp (hL2 z hz)
    exact List.mem_map.mpr ⟨y, hp2.mem_iff.mpr hy, e⟩
theorem scr_of {D a : Addr} {ns : List Int} (h : SqL K H a (ns.map V.int)) (n : H D = none) : Scr K H D a ns := by
  rcases h with h | h
  · refine .inl ⟨fun e => ?_, h⟩
    subst e
    rcases h with h | ⟨o, h⟩ <;> rw [n] at h <;> cases h
  · exact .inr h
theorem res_size {A : PB} (ok : A.Ok) {x : Option (List (List Row))} (r : Res A x) : ∀ L, x = some L → L.length ≤ 100 ∧ ∀ l ∈ L, l.length ≤ 1000 := by
  rintro L rfl
  obtain ⟨_, _, _, _, h1, _, h2⟩ := r
  have := ok.n3
  exact ⟨by omega, fun l hl => by have := h2 l hl; omega⟩
/-- tables made so far -/
def Tabs (R : Nat → List Row → Prop) (i : Nat) (acc : List V) (H : Hp) : Prop := ∃ (es : List Addr) (J : List (List Row)), acc = es.map V.ref ∧ Paired (TabT H) es J ∧ J.length = i ∧ ∀ (j : Nat) rs, J[j]? = some rs → R j rs
theorem Tabs.tk {R : Nat → List Row → Prop} {i : Nat} {acc : List V} (x : Tabs R i acc H) (t : TK H H') : Tabs R i acc H' := let ⟨es, J, h1, h2, h3, h4⟩ := x; ⟨es, J, h1, paired_map h2 fun _ _ z => z.tk t, h3, h4⟩
theorem Tabs.nil {R : Nat → List Row → Prop} : Tabs R 0 [] H := ⟨[], [], rfl, .nil, rfl, fun j rs h => by simp at h⟩
theorem Tabs.snoc {R : Nat → List Row → Prop} {i : Nat} {acc : List V} {tp : Addr} {rs : List Row} (x : Tabs R i acc H) (ht : TabT H tp rs) (hr : R i rs) : Tabs R (i + 1) (acc ++ [.ref tp]) H := by
  obtain ⟨es, J, rfl, h2, h3, h4⟩ := x
  refine ⟨es ++ [tp], J ++ [rs], by simp, Paired.snoc h2 ht, by simp [h3], fun j r h => ?_⟩
  rcases Nat.lt_trichotomy j i with hj | hj | hj
  · rw [List.getElem?_append_left (by omega)] at h
    exact h4 j r h
  · rw [hj, List.getElem?_append_right (by omega), h3, Nat.sub_self] at h
    cases h
    rw [hj]; exact hr
  · rw [List.getElem?_append_right (by omega)] at h
    rw [List.getElem?_eq_none (by simp; omega)] at h
    cases h
theorem Tabs.store {R : Nat → List Row → Prop} {i : Nat} {acc : List V} {a : Addr} (x : Tabs R i acc H) (h : Tu H a acc) : ∃ J, StoreAt H a J ∧ J.length = i ∧ ∀ (j : Nat) rs, J[j]? = some rs → R j rs := let ⟨es, J, h1, h2, h3, h4⟩ := x; ⟨J, ⟨es, by rw [← h1]; exact h, h2⟩, h3, h4⟩
theorem tab_len {e : Addr} {qs : List (Addr × Row)} {l : List Row} (h : qs.map (·.2) = l) : qs.length = l.length := by have := congrArg List.length h; simpa using this
abbrev pS : List Str := ["scheme", "book", "store"]
theorem ok_law {f f1 f2 f3 f4 f5 f6 f7 f8 : Addr} {fd fd1 fd2 fd3 fd4 fd5 fd6 fd7 fd8 : FuncData} (F : Fun K "law" "law" sLaw f fd)
    (o1 : Own K mg "_law_draws" f1 fd1 ["_law_script", "_law_many"]) (G1 : FnOk P w K mg base CX0 1 f1 fd1 ["_law_script", "_law_many"] (spDraws K))
    (o2 : Own K mg "_law_scene" f2 fd2 ["_law_draws_here", "_law_many"]) (G2 : FnOk P w K mg base CX0 6 f2 fd2 ["_law_draws_here", "_law_many"] spScene)
    (o3 : Own K mg "_law_store" f3 fd3 pLSt) (G3 : FnOk P w K mg base CX0 3 f3 fd3 pLSt (spLSt K))
    (o4 : Own K mg "_law_dependency" f4 fd4 ["_law_draws_here", "_law_scheme_here", "_law_order"]) (G4 : FnOk P w K mg base CX0 4 f4 fd4 ["_law_draws_here", "_law_scheme_here", "_law_order"] spDep)
    (o5 : Own K mg "_law_is_tame" f5 fd5 ["_law_scheme_here", "_law_order", "_law_book_here", "_law_many"]) (G5 : FnOk P w K mg base CX0 2 f5 fd5 ["_law_scheme_here", "_law_order", "_law_book_here", "_law_many"] spTame)
    (o6 : Own K mg "sure_rows" f6 fd6 ["scheme", "book", "store"]) (G6 : FnOk P w K mg base CX0 9 f6 fd6 ["scheme", "book", "store"] spSureA)
    (o7 : Own K mg "_law_are_within" f7 fd7 ["_law_one", "_law_other"]) (G7 : FnOk P w K mg base CX0 1 f7 fd7 ["_law_one", "_law_other"] spAre)
    (o8 : OTake K mg f8 fd8) (G8 : GTake P w K mg base f8 fd8)
    (mi : mg "int" = none) (ml : mg "len" = none) (mr : mg "range" = none) (mt : mg "tuple" = none) (ms : mg "sorted" = none) (mse : mg "set" = none) (mm : mg "min" = none) : FnOk P w K mg base CX0 10 f fd ["_law_script"] (spLaw K) := by
  refine F.ok scLaw (fun vs H Q E h => ?_) (fun cdv Ar outer sh H vs Q E hr h => ?_)
  · obtain ⟨a, ns, rfl, _⟩ := h
    rfl
  · obtain ⟨a, ns, rfl, ha, hns, k⟩ := h
    have nd := scLaw.nd
    have hr1 : Room 1 _ := hr.mono (by decide)
    refine ⟨_, pss_cons (ps_set (i := 1) nd rfl (Or.inl rfl) (pe_call G1 hr1 rfl o1.mgf o1.kp o1.bd .nil pass0 (pa_cons (pv 0) (pa_cons pe_int pa_nil))))
      (pss_cons (ps_asg (pe_call G2 (hr.mono (by decide)) rfl o2.mgf o2.kp o2.bd .nil pass0 (pa_cons (pv 1) (pa_cons pe_int pa_nil))) (pg_lst rfl (pgs_cons (pg_name (i := 2) nd rfl (Or.inl rfl)) (pgs_cons (pg_name (i := 3) nd rfl (Or.inl rfl)) (pgs_cons (pg_name (i := 4) nd rfl (Or.inl rfl)) pgs_nil)))))
      (pss_cons (ps_set (i := 5) nd rfl (Or.inr rfl) (pe_call G3 (hr.mono (by decide)) rfl o3.mgf o3.kp o3.bd .nil pass0 (pa_cons (pv 0) (pa_cons (pv 1) (pa_cons (pv 2) (pa_cons pe_int (pa_cons pe_bl pa_nil)))))))
      (pss_cons (ps_set (i := 6) nd rfl (Or.inr rfl) (pe_call G3 (hr.mono (by decide)) rfl o3.mgf o3.kp o3.bd .nil pass0 (pa_cons (pv 0) (pa_cons (pv 1) (pa_cons (pv 2) (pa_cons pe_int (pa_cons pe_bl pa_nil)))))))
      (pss_cons (ps_set (i := 7) nd rfl (Or.inl rfl) (pe_callTy cr_tup rfl mt (by rfl) (pa_cons (pe_lc (own := [("_law_k", 15)]) (g := gName 15) (tt := tYes) rfl nd (pi_range1 rfl mr (pa_cons (pe_callB cr_lenQ (by rfl) ml PySem.boot_len (pa_cons (pv 2) pa_nil)) pa_nil)) (blkOk_by (N := nLaw) (sc := defScope sLaw) (by decide +kernel)) (fun _ _ _ _ _ => pg_name (i := 15) nd rfl (Or.inl rfl)) (fun _ _ _ _ _ => pts_nil)
        (fun _ _ _ _ _ => pe_callTy (r := rTup K) cr_tup rfl mt (by rfl) (pa_cons (pe_callB (r := rSortS K P w) (cr_sortS rfl hr.units) rfl ms PyProof.Rows.boot_sorted (pa_cons (pe_callTy (r := rSetOfU K P w) (cr_setOfU rfl hr.units) rfl mse PyProof.Rows.boot_set (pa_cons (pe_op (r := rCatA K) op_catA (pe_ix (r := rIxT K) ix_tup (pv 5) (pv 15) (fun _ _ => rfl)) (pe_ix (r := rIxT K) ix_tup (pv 6) (pv 15) (fun _ _ => rfl))) pa_nil)) pa_nil)) pa_nil))) pa_nil)))
      (pss_cons (ps_set (i := 8) nd rfl (Or.inl rfl) (pe_op op_catA (pv 4) (pe_tup (pa_cons (pe_call G4 (hr.mono (by decide)) rfl o4.mgf o4.kp o4.bd .nil pass0 (pa_cons (pv 1) (pa_cons (pv 2) (pa_cons (pv 3) pa_nil)))) pa_nil))))
      (pss_cons (ps_if (pt_not (pt_val (pe_call G5 (hr.mono (by decide)) rfl o5.mgf o5.kp o5.bd .nil pass0 (pa_cons (pv 2) (pa_cons (pv 3) (pa_cons (pv 8) (pa_cons pe_int pa_nil))))))) (pss_one (ps_set (i := 8) nd rfl (Or.inl rfl) (pv 4))) pss_nil)
      (pss_cons (ps_set (i := 9) nd rfl (Or.inl rfl) (pe_call G6 hr rfl o6.mgf o6.kp o6.bd .nil pass0 (pa_cons (pv 2) (pa_cons (pv 4) (pa_cons (pv 5) pa_nil)))))
      (pss_cons (ps_if (pt_not (pt_val (pe_call G7 hr1 rfl o7.mgf o7.kp o7.bd .nil pass0 (pa_cons (pv 9) (pa_cons (pe_call G6 hr rfl o6.mgf o6.kp o6.bd .nil pass0 (pa_cons (pv 2) (pa_cons (pv 4) (pa_cons (pv 7) pa_nil)))) pa_nil))))) (pss_one (ps_ret pe_bl)) pss_nil)
      (pss_cons (ps_if (pt_not (pt_val (pe_call G7 hr1 rfl o7.mgf o7.kp o7.bd .nil pass0 (pa_cons (pv 9) (pa_cons (pe_call G6 hr rfl o6.mgf o6.kp o6.bd .nil pass0 (pa_cons (pv 2) (pa_cons (pv 8) (pa_cons (pv 5) pa_nil)))) pa_nil))))) (pss_one (ps_ret pe_bl)) pss_nil)
      (pss_cons (ps_set (i := 10) nd rfl (Or.inr rfl) (pe_call G8 hr1 rfl o8.mgf o8.kp o8.bd .nil pass0 (pa_cons (pv 1) (pa_cons pe_int pa_nil))))
      (pss_cons (ps_set (i := 11) nd rfl (Or.inr rfl) (pe_un un_neg pe_int))
      (pss_cons (ps_for PassesOwn.never rfl (pi_tup (pv 5)) (pg_name (i := 12) nd rfl (Or.inl rfl)) (pss_one (ps_for PassesOwn.never rfl (pi_tup (pv 12)) (pg_name (i := 13) nd rfl (Or.inl rfl)) (pss_one (ps_set (i := 11) nd rfl (Or.inr rfl) (pe_callB (call_min2 rfl) rfl mm PyProof.Rows.boot_min (pa_cons (pv 11) (pa_cons (pe_op op_sub (pe_callB (cr_minT rfl) rfl mm PyProof.Rows.boot_min (pa_cons (pv 13) pa_nil)) pe_int) pa_nil))))))))
      (pss_cons (ps_set (i := 14) nd rfl (Or.inl rfl) (pe_lst pa_nil))
      (pss_cons (ps_for PassesOwn.never rfl (pi_tup (pv 5)) (pg_name (i := 12) nd rfl (Or.inl rfl)) (pss_one (ps_expr (pe_bm PySem.F.plainAttrs_list PySem.F.slot_list_append PySem.F.type_list_append mt_append (pv 14) (pa_cons (pe_callTy cr_tup rfl mt (by rfl) (pa_cons (pe_callB (cr_sortS rfl hr.units) rfl ms PyProof.Rows.boot_sorted (pa_cons (pe_callTy (cr_setOfT rfl hr.units) rfl mse PyProof.Rows.boot_set (pa_cons
          (pe_lc (own := [("_law_row", 13)]) (g := gName 13) (tt := tYes) rfl nd (pi_tup (pv 12)) (blkOk_by (N := nLaw) (sc := defScope sLaw) (by decide +kernel)) (fun _ _ _ _ _ => pg_name (i := 13) nd rfl (Or.inl rfl)) (fun _ _ _ _ _ => pts_nil)
            (fun _ _ _ _ _ => pe_callTy (r := rTup K) cr_tup rfl mt (by rfl) (pa_cons (pe_lc (wi := iTup K (tVar 13)) (own := [("_law_value", 16)]) (g := gName 16) (tt := tYes) rfl nd (pi_tup (pv 13)) (blkOk_by (N := nLaw) (sc := sclL [(".0", .local), ("_law_row", .local), ("tuple", .globalImplicit), ("_law_hidden", .cell), ("_law_low", .cell)]) (by decide +kernel)) (fun _ _ _ _ _ => pg_name (i := 16) nd rfl (Or.inl rfl)) (fun _ _ _ _ _ => pts_nil)
              (fun _ _ _ _ _ => pe_ix (r := rIxL K) ix_list (pe_lst (pa_cons (pv 16) (pa_cons (pv 11) pa_nil))) (pe_callTy (r := rInt) cr_int rfl mi (by rfl) (pa_cons (pe_cmpR op_eq (pv 16) (pv 10) (nomark _)) pa_nil)) (fun _ _ => rfl))) pa_nil))) pa_nil)) pa_nil)) pa_nil)) pa_nil)))))
      (pss_one (ps_ret (pe_call G7 hr1 rfl o7.mgf o7.kp o7.bd .nil pass0 (pa_cons (pe_call G6 hr rfl o6.mgf o6.kp o6.bd .nil pass0 (pa_cons (pv 2) (pa_cons (pv 4) (pa_cons (pe_callTy cr_tup rfl mt (by rfl) (pa_cons (pv 14) pa_nil)) pa_nil)))) (pa_cons (pv 9) pa_nil))))))))))))))))))), ?_⟩
    -- the draws
    refine ⟨_, rfl, a, ns, 350, rfl, ha, by omega, by decide, fun D H1 hD0 f1 d1 => ?_⟩
    have haD : Scr K H1 D a ns := (scr_of ha hD0).fm (f1.weak fun _ z => z.elim)
    have F1 : Fm (isD D) H H1 := f1.weak fun _ z => z.elim
    -- the scene
    refine ⟨_, rfl, D, rfl, d1, fun l sc o bk ws order dl H2 hl hsc hok hord hbk hgood hdl htame f2 d2 => ?_⟩
    refine ⟨l, _, rfl, .of hl, rfl, _, _, rfl, _, _, rfl, _, _, rfl, rfl, ?_⟩
    -- the stores
    refine ⟨_, rfl, _, rfl, _, rfl, a, D, sc, ns, ws, rfl, haD.fm f2, d2, hsc, hok, fun st L H3 hst hL f3 d3 => ?_⟩
    have hsc3 := f3.tk _ _ hsc
    refine ⟨_, rfl, _, rfl, _, rfl, a, D, sc, ns, ws, rfl, (haD.fm f2).fm f3, d3, hsc3, hok, fun mo M H4 hmo hM f4 d4 => ?_⟩
    have hsc4 := f4.tk _ _ hsc3
    have hst4 := hst.tk f4.tk
    have hord4 := (hord.fm f3).fm f4
    have hbk4 := hbk.tk (f3.trans f4).tk
    -- joined
    have hl3 := hok.l3
    have hwid : ∀ {t}, t < ws.length → 1 ≤ wfOf ws t := fun h => (hok.wid h).1
    obtain ⟨es, hes, hpe⟩ := id hst4
    obtain ⟨gs, hgs, hpg⟩ := id hmo
    have hel : es.length = L.length := Paired.length hpe
    have hgl : gs.length = M.length := Paired.length hpg
    have hLl := hL.len
    have hMl := hM.len
    refine ⟨_, rfl, sc, _, rfl, .inr (.of hsc4), ws.length, (by rw [nV_len]), by omega, by omega, fun D5 hD5 => ?_⟩
    refine lc_accG (walk_r0 (n := ws.length)) (S := Non) (fun i acc H' => Tabs (fun j rs => rs.length ≤ 4 ∧ (∀ r ∈ rs, r.length = wfOf ws j) ∧ ∀ l, L[j]? = some l → ∀ r ∈ l, r ∈ rs) i acc H') (by omega) hD5 id (fun _ _ => trivial) (fun i acc H2 H3 z f => z.tk f.tk) .nil ?_ ?_
    · rintro i x acc Ha Hb hi f hacc _ ⟨rfl, rfl⟩ Qt Qf kt kf
      obtain ⟨rs, hrs⟩ : ∃ rs, L[i]? = some rs := ⟨_, List.getElem?_eq_getElem (by omega)⟩
      obtain ⟨ms', hms⟩ : ∃ rs, M[i]? = some rs := ⟨_, List.getElem?_eq_getElem (by omega)⟩
      obtain ⟨e, he, qs, hq1, hq2, hq3⟩ := paired_at2 hpe hrs
      obtain ⟨g, hg, ps, hp1, hp2, hp3⟩ := paired_at2 hpg hms
      have hql := tab_len (e := e) hq3
      have hpl := tab_len (e := g) hp3
      have hLi := hL.all i rs hrs
      have hMi := hM.all i ms' hms
      have ge : (es.map V.ref)[i]? = some (.ref e) := by rw [List.getElem?_map, he]; rfl
      have gg : (gs.map V.ref)[i]? = some (.ref g) := by rw [List.getElem?_map, hg]; rfl
      have wr : ∀ z ∈ qs ++ ps, z.2.length = wfOf ws i := fun z hz => by
        rcases List.mem_append.mp hz with h | h
        · exact hLi.2 _ (by rw [← hq3]; exact List.mem_map.mpr ⟨z, h, rfl⟩)
        · exact hMi.2 _ (by rw [← hp3]; exact List.mem_map.mpr ⟨z, h, rfl⟩)
      refine ⟨rfl, _, rfl, _, rfl, st, _, _, _, rfl, rfl, .of (f.tk _ _ hes), atI_nat ge, _, rfl, _, rfl, mo, _, _, _, rfl, rfl, .of (f.tk _ _ hgs), atI_nat gg, ?_⟩
      refine cat_any (f.tk _ _ hq1) (f.tk _ _ hp1) (by simp only [List.length_map]; omega) fun p Hc fc hp => ?_
      rw [← List.map_append] at hp
      have hrow : ∀ z ∈ qs ++ ps, RowT Hc z.1 z.2 := fun z hz => by
        rcases List.mem_append.mp hz with h | h
        · exact fc.tk _ _ (f.tk _ _ (hq2 z h))
        · exact fc.tk _ _ (f.tk _ _ (hp2 z h))
      have hwi := hwid hi
      have hqp : (qs ++ ps).length ≤ 4 := by rw [List.length_append]; omega
      refine ⟨p, qs ++ ps, rfl, .of hp, fun z hz => .of (hrow z hz), by omega, fun sa L1 hsa hL1 hL2 => ?_⟩
      refine srt_rows hrow (fun z hz e0 => by have := wr z hz; rw [e0] at this; simp at this; omega) (fun tp q2 Hd fd htp hr2 hlen hmem hall => ?_) sa L1 hsa hL1 hL2
      have fcd := fc.trans fd
      refine kt _ _ fcd ((hacc.tk fcd.tk).snoc ⟨q2, htp, hr2, rfl⟩ ⟨by omega, fun r hr => ?_, fun l hl r hr => ?_⟩)
      · obtain ⟨z, hz, rfl⟩ := List.mem_map.mp hr
        exact wr z (hmem z hz)
      · rw [hrs] at hl
        cases hl
        rw [← hq3] at hr
        obtain ⟨z, hz, rfl⟩ := List.mem_map.mp hr
        exact hall z (List.mem_append_left _ hz)
    · rintro acc Ha f5 hl hd hacc
      refine ⟨D5, _, rfl, .inl ⟨.of hd, fun jo hjo => ?_⟩⟩
      have fj : Fm Non Ha (upd Ha jo (.tup acc)) := .new hjo
      obtain ⟨J, hJ, hJl, hJa⟩ := (hacc.tk fj.tk).store upd_same
      have F5 := f5.trans fj
      have d5 := d4.fm F5 id
      have hsc5 := F5.tk _ _ hsc4
      have hst5 := hst4.tk F5.tk
      have hbk5 := hbk4.tk F5.tk
      have hord5 := hord4.fm (F5.weak fun _ z => z.elim)
      generalize upd Ha jo (.tup acc) = H5 at *
      clear hmo hpg hgs hpe hes hd hacc
      -- longer
      refine ⟨_, rfl, _, rfl, _, rfl, _, rfl, D, sc, o, ws, order, rfl, d5, hsc5, hok, hord5, fun da dn H6 hda hdg f6 d6 => ?_⟩
      refine ⟨by show 1 ≤ sizeLine; decide, fun t1 ht1 => ?_⟩
      have g6 : Fm Non H6 (upd H6 t1 (.tup [.ref da])) := .new ht1
      obtain ⟨eb, heb, hpb⟩ := id hbk5
      have hebl : eb.length = dl.length := Paired.length hpb
      refine cat_any (g6.tk _ _ (f6.tk _ _ heb)) upd_same (by simp only [List.length_map, List.length_cons, List.length_nil]; omega) fun lo H7 f7 hlo => ?_
      have F7 : Fm (isD D) H5 H7 := f6.trans ((g6.trans f7).weak fun _ z => z.elim)
      have t67 : TK H6 H7 := (g6.trans f7).tk
      have hlo7 : BookAt H7 lo (dl ++ [dn]) := ⟨eb ++ [da], by rw [List.map_append]; exact hlo, Paired.snoc (paired_map hpb fun _ _ z => z.tk F7.tk) (hda.tk t67)⟩
      have d7 := d6.fm (g6.trans f7) id
      have hsc7 := F7.tk _ _ hsc5
      have hst7 := hst5.tk F7.tk
      have hbk7 := hbk5.tk F7.tk
      have hJ7 := hJ.tk F7.tk
      have hord7 := hord5.fm F7
      have hgood7 : ∀ d ∈ dl ++ [dn], DepGood ws order d := fun d hd => by
        rcases List.mem_append.mp hd with h | h
        · exact hgood d h
        · rw [List.mem_singleton.mp h]; exact hdg
      clear hbk5 hpb hJ heb hlo hord5 hst5 hsc5
      dsimp only
      refine seq_join (t1 := tIfS _ _ _) (fun σ Hf => ∃ (lo' : Addr) (dl2 : List Dep), σ = [some (.ref a), some (.ref D), some (.ref sc), some (.ref o), some (.ref bk), some (.ref st), some (.ref mo), some (.ref jo), some (.ref lo'), none, none, none, none, none, none, none, none] ∧ Fm Non H7 Hf ∧ BookAt Hf lo' dl2 ∧ (∀ d ∈ dl2, DepGood ws order d) ∧ dl2.length ≤ 5 ∧ tameB ws order dl2 = true ∧ ∀ d ∈ dl, d ∈ dl2) (fun R hR => ?_) ?_
      · refine ⟨_, rfl, _, rfl, _, rfl, sc, o, lo, ws, order, dl ++ [dn], rfl, hsc7, hok, hord7.1, hord7.2.2, hlo7, hgood7, by rw [List.length_append]; simp only [List.length_cons, List.length_nil]; omega, fun H8 f8 => ⟨_, rfl, ?_⟩⟩
        cases htm : tameB ws order (dl ++ [dn]) with
        | true => exact iteF (hR _ _ ⟨lo, _, rfl, f8, hlo7.tk f8.tk, hgood7, by rw [List.length_append]; simp only [List.length_cons, List.length_nil]; omega, htm, fun d h => List.mem_append_left _ h⟩)
        | false => exact iteT ⟨_, rfl, hR _ _ ⟨bk, dl, rfl, f8, hbk7.tk f8.tk, hgood, by omega, htame, fun d h => h⟩⟩
      · rintro σ H8 ⟨lo', dl2, rfl, f8, hlo8, hg2, hl2, htm2, hsub⟩
        have d8 := d7.fm f8 id
        have hsc8 := f8.tk _ _ hsc7
        have hst8 := hst7.tk f8.tk
        have hbk8 := hbk7.tk f8.tk
        have hJ8 := hJ7.tk f8.tk
        clear hlo7 hsc7 hst7 hbk7 hJ7
        have sto4 : StoOk ws 4 L := ⟨hL.len, fun j rs h => ⟨by have := (hL.all j rs h).1; omega, (hL.all j rs h).2⟩⟩
        have stoJ : StoOk ws 4 J := ⟨hJl, fun j rs h => ⟨(hJa j rs h).1, (hJa j rs h).2.1⟩⟩
        have perm := hord.2.2
        have okA := pb_ok hok perm hgood htame (by omega) sto4
        have okJ := pb_ok hok perm hgood htame (by omega) stoJ
        have okG := pb_ok hok perm hg2 htm2 hl2 sto4
        have sta : ∀ {Hx : Hp} {b : Addr} {ds : List Dep} {M : List (List Row)}, Tu Hx sc (nV ws) → BookAt Hx b ds → Sta (pbOf ws ds M) Hx sc b := fun h1 h2 => ⟨by show Tu _ sc ((List.range ws.length).map fun t => V.int (wfOf ws t : Int)); rw [← sch_range]; exact h1, h2⟩
        have l0 : ∀ {ds : List Dep} {M : List (List Row)}, StoOk ws 4 M → L0 (pbOf ws ds M) M := fun h => ⟨rfl, h.len, fun rs hrs => by obtain ⟨j, hj⟩ := List.getElem?_of_mem hrs; have := (h.all j rs hj).1; omega⟩
        -- sure
        refine ⟨_, rfl, _, rfl, _, rfl, pbOf ws dl L, sc, bk, st, L, okA, rfl, sta hsc8 hbk8, hst8, l0 sto4, fun v1 x1 H9 f9 hv1 hx1 => ?_⟩
        have sz1 := res_size okA hx1
        -- more rows
        refine ⟨_, rfl, _, rfl, _, rfl, _, rfl, pbOf ws dl J, sc, bk, jo, J, okJ, rfl, sta (f9.tk _ _ hsc8) (hbk8.tk f9.tk), hJ8.tk f9.tk, l0 stoJ, fun v2 x2 H10 f10 hv2 hx2 => ⟨v1, v2, x1, x2, rfl, hv1.tk f10.tk, hv2, within_of okA okJ (fun d h => h) (h := id) (fun _ _ => rfl) (fun t r ⟨rs, h1, h2⟩ => ?_) hx1 hx2, sz1, fun H11 f11 => ⟨_, rfl, iteF ?_⟩⟩⟩
        · obtain ⟨rs', hrs'⟩ : ∃ rs', J[t]? = some rs' := ⟨_, List.getElem?_eq_getElem (by rw [hJl, ← hLl]; exact (List.getElem?_eq_some_iff.mp h1).1)⟩
          rw [List.map_id]
          exact ⟨rs', hrs', (hJa t rs' hrs').2.2 rs h1 r h2⟩
        have f811 := (f9.trans f10).trans f11
        -- more dependencies
        refine ⟨_, rfl, _, rfl, _, rfl, _, rfl, pbOf ws dl2 L, sc, lo', st, L, okG, rfl, sta (f811.tk _ _ hsc8) (hlo8.tk f811.tk), hst8.tk f811.tk, l0 sto4, fun v3 x3 H12 f12 hv3 hx3 => ⟨v1, v3, x1, x3, rfl, hv1.tk ((f10.trans f11).trans f12).tk, hv3, within_of okA okG hsub (h := id) (fun _ _ => rfl) (fun t r h => by rw [List.map_id]; exact h) hx1 hx3, sz1, fun H13 f13 => ⟨_, rfl, iteF ?_⟩⟩⟩
        have f813 := (f811.trans f12).trans f13
        have hv13 := hv1.tk (((f10.trans f11).trans f12).trans f13).tk
        have d13 := d8.fm f813 id
        -- hidden
        refine ⟨_, rfl, D, 3, rfl, d13, by decide, fun hid H14 hhid f14 d14 => ?_⟩
        have hv14 := hv13.tk f14.tk
        have t814 := f813.tk.trans f14.tk
        have hsc14 := t814 _ _ hsc8
        have hst14 := hst8.tk t814
        have hbk14 := hbk8.tk t814
        clear hst8 hsc8 hbk8 hJ8 hlo8 hv13 hv1
        -- low
        obtain ⟨es, hes, hpe⟩ := id hst14
        have hel : es.length = L.length := Paired.length hpe
        refine ⟨_, rfl, _, rfl, st, rfl, ⟨_, .of hes⟩, for_tup (K := K) (a := st) (xs := es.map V.ref) (fun i σ Hc => ∃ (low : Int) (x12 x13 : Option V), σ = [some (.ref a), some (.ref D), some (.ref sc), some (.ref o), some (.ref bk), some (.ref st), some (.ref mo), some (.ref jo), some (.ref lo'), some v1, some (.int (hid : Int)), some (.int low), x12, x13, none, none, none] ∧ Fm Non H14 Hc ∧ low < 0 ∧ ∀ j, j < i → ∀ rs, L[j]? = some rs → ∀ r ∈ rs, ∀ v ∈ r, low < v) ?_ ?_ ?_ ?_⟩
        · exact ⟨_, _, _, rfl, .refl, by decide, fun j hj => absurd hj (Nat.not_lt_zero _)⟩
        · rintro i σ Hc _ ⟨_, _, _, _, f, _⟩
          exact .of (f.tk _ _ hes)
        · rintro i x σ Hc hx ⟨low, x12, x13, rfl, fc, hlow, hall⟩
          obtain ⟨e, he, rfl⟩ := map_at hx
          obtain ⟨rs, hrs, qs, hq1, hq2, hq3⟩ := paired_at hpe he
          have hiL : i < L.length := (List.getElem?_eq_some_iff.mp hrs).1
          refine ⟨_, rfl, e, rfl, ⟨_, .of (fc.tk _ _ hq1)⟩, for_tup (K := K) (a := e) (xs := qs.map fun z => V.ref z.1) (fun j σ Hd => ∃ (low : Int) (x13 : Option V), σ = [some (.ref a), some (.ref D), some (.ref sc), some (.ref o), some (.ref bk), some (.ref st), some (.ref mo), some (.ref jo), some (.ref lo'), some v1, some (.int (hid : Int)), some (.int low), some (.ref e), x13, none, none, none] ∧ Fm Non H14 Hd ∧ low < 0 ∧ (∀ j, j < i → ∀ rs, L[j]? = some rs → ∀ r ∈ rs, ∀ v ∈ r, low < v) ∧ ∀ z ∈ qs.take j, ∀ v ∈ z.2, low < v) ?_ ?_ ?_ ?_⟩
          · exact ⟨low, _, rfl, fc, hlow, hall, fun z hz => by simp at hz⟩
          · rintro j σ Hd _ ⟨_, _, _, f, _⟩
            exact .of (f.tk _ _ hq1)
          · rintro j x σ Hd hx ⟨low, x13, rfl, fd, hlow, hall, hnow⟩
            obtain ⟨z, hz, rfl⟩ := map_at hx
            have hzq := List.mem_of_getElem? hz
            have hzl := (hL.all i rs hrs).2 z.2 (by rw [← hq3]; exact List.mem_map.mpr ⟨z, hzq, rfl⟩)
            have hw1 := hwid (t := i) (by omega)
            refine ⟨_, rfl, _, rfl, z.1, z.2, rfl, .of (fd.tk _ _ (hq2 z hzq)), fun e0 => by rw [e0] at hzl; simp at hzl; omega, fun m hm hmin => ⟨_, _, rfl, rfl, _, _, rfl, ?_⟩⟩
            have hle : (if m - 1 < low then m - 1 else low) ≤ low ∧ (if m - 1 < low then m - 1 else low) ≤ m - 1 := by
              by_cases hc : m - 1 < low
              · rw [if_pos hc]; omega
              · rw [if_neg hc]; omega
            refine ⟨_, _, rfl, fd, by omega, fun j' hj' rs' h' r hr v hv => by have := hall j' hj' rs' h' r hr v hv; omega, fun y hy v hv => ?_⟩
            rw [List.take_add_one, hz] at hy
            rcases List.mem_append.mp hy with h | h
            · have := hnow y h v hv; omega
            · rw [List.mem_singleton.mp h] at hv
              have := hmin v hv; omega
          · rintro σ Hd ⟨low, x13, rfl, fd, hlow, hall, hnow⟩
            refine ⟨low, _, _, rfl, fd, hlow, fun j hj rs' h' r hr v hv => ?_⟩
            by_cases hji : j = i
            · subst hji
              rw [hrs] at h'
              cases h'
              rw [← hq3] at hr
              obtain ⟨z, hz, rfl⟩ := List.mem_map.mp hr
              exact hnow z (by rw [List.length_map, List.take_length]; exact hz) v hv
            · exact hall j (by omega) rs' h' r hr v hv
        · rintro σ H15 ⟨low, x12, x13, rfl, f15, hlow, hall⟩
          have hlt : ∀ t r v, stOf L t r → v ∈ r → low < v := fun t r v ⟨rs, h1, h2⟩ hv => hall t (by rw [List.length_map, hel]; exact (List.getElem?_eq_some_iff.mp h1).1) rs h1 r h2 v hv
          clear hall
          -- tables
          refine ⟨Nat.zero_le _, fun tl htl => ?_⟩
          have g15 : Fm Non H15 (upd H15 tl (.lst [])) := .new htl
          have t1415 := f15.tk
          refine ⟨_, rfl, st, rfl, ⟨_, .of ((f15.trans g15).tk _ _ hes)⟩, for_tup (K := K) (a := st) (xs := es.map V.ref) (fun i σ Hc => ∃ (acc : List V) (x12 x13 : Option V), σ = [some (.ref a), some (.ref D), some (.ref sc), some (.ref o), some (.ref bk), some (.ref st), some (.ref mo), some (.ref jo), some (.ref lo'), some v1, some (.int (hid : Int)), some (.int low), x12, x13, some (.ref tl), none, none] ∧ Fm Non H15 Hc ∧ Hc tl = some (.lst acc) ∧ Tabs (fun j rs => rs.length ≤ 4 ∧ (∀ r ∈ rs, r.length = wfOf ws j) ∧ ∀ l, L[j]? = some l → ∀ r ∈ rs, ∃ r0 ∈ l, r = r0.map (hideV (hid : Int) low)) i acc Hc) ?_ ?_ ?_ ?_⟩
          · exact ⟨[], _, _, rfl, g15, upd_same, .nil⟩
          · rintro i σ Hc _ ⟨_, _, _, _, f, _⟩
            exact .of ((f15.trans f).tk _ _ hes)
          · rintro i x σ Hc hx ⟨acc, x12, x13, rfl, fc, htc, htabs⟩
            obtain ⟨e, he, rfl⟩ := map_at hx
            obtain ⟨rs, hrs, qs, hq1, hq2, hq3⟩ := paired_at hpe he
            have hiL : i < L.length := (List.getElem?_eq_some_iff.mp hrs).1
            have hql := tab_len (e := e) hq3
            have hLi := hL.all i rs hrs
            have hw4 := (hok.wid (t := i) (by omega)).2
            have hw1 := hwid (t := i) (by omega)
            have tc := (f15.trans fc).tk
            have wq : ∀ z ∈ qs, z.2.length = wfOf ws i := fun z hz => hLi.2 z.2 (by rw [← hq3]; exact List.mem_map.mpr ⟨z, hz, rfl⟩)
            refine ⟨_, rfl, .inl ⟨rfl, _, SqL.of htc⟩, _, rfl, e, rfl, ⟨_, .of (tc _ _ hq1)⟩, fun D2 hD2 => ?_⟩
            refine lc_accG (walk_tupR (K := K) (b := e) (qs := qs)) (S := Non) (fun j acc H' => ∃ ps : List (Addr × Row), acc = ps.map (fun z => V.ref z.1) ∧ (∀ z ∈ ps, RowT H' z.1 z.2) ∧ ps.map (·.2) = (qs.take j).map fun z => z.2.map (hideV (hid : Int) low)) (by omega) hD2 id (fun H' f => .of (f.tk _ _ (tc _ _ hq1))) (fun i acc H1 H2 ⟨ps, h1, h2, h3⟩ f => ⟨ps, h1, fun z hz => f.tk _ _ (h2 z hz), h3⟩) ⟨[], rfl, fun z hz => by simp at hz, rfl⟩ ?_ ?_
            · rintro j y acc2 H4 H5 hj f4 ⟨ps, rfl, hp2, hp3⟩ _ ⟨rfl, z, hz, rfl⟩ Qt Qf kt kf
              have hzq := List.mem_of_getElem? hz
              have hzl := wq z hzq
              have hz4 := f4.tk _ _ (tc _ _ (hq2 z hzq))
              refine ⟨rfl, _, rfl, z.1, rfl, ⟨_, .of hz4⟩, fun D3 hD3 => ?_⟩
              refine lc_accG (walk_tup (K := K) (xs := z.2.map V.int)) (S := Non) (fun c acc H' => acc = (z.2.take c).map fun v => V.int (hideV (hid : Int) low v)) (by rw [List.length_map]; omega) hD3 id (fun H' f => .of (f.tk _ _ hz4)) (fun i acc H1 H2 e _ => e) rfl ?_ ?_
              · rintro c y acc3 H6 H7 hc f6 rfl _ ⟨rfl, hy⟩ Qt' Qf' kt' kf'
                obtain ⟨v, hv, rfl⟩ := map_at hy
                refine ⟨rfl, _, rfl, _, rfl, by show 2 ≤ sizeLine; decide, fun l3 hl3 => ?_⟩
                have g7 : Fm Non H7 (upd H7 l3 (.lst [.int v, .int low])) := .new hl3
                refine ⟨_, rfl, _, rfl, rfl, .inr ⟨_, rfl, l3, _, _, if v = (hid : Int) then .int low else .int v, rfl, rfl, .of upd_same, ?_, ?_⟩⟩
                · show atI [V.int v, V.int low] (if decide (V.int v = V.int (hid : Int)) = true then 1 else 0) = _
                  by_cases hc : v = (hid : Int)
                  · subst hc
                    rw [if_pos rfl, if_pos (by simp)]
                    exact atI_nat (j := 1) rfl
                  · rw [if_neg hc, if_neg (by simp [hc])]
                    exact atI_nat (j := 0) rfl
                · have ev : (if v = (hid : Int) then V.int low else .int v) = V.int (hideV (hid : Int) low v) := by
                    unfold hideV
                    by_cases hc : v = (hid : Int)
                    · rw [if_pos hc, if_pos hc]
                    · rw [if_neg hc, if_neg hc]
                  rw [ev]
                  exact kt' _ _ g7 (by rw [List.take_add_one, hv]; simp)
              · rintro acc3 H6 f6 hl6 hd6 rfl
                rw [List.length_map, List.take_length] at hd6
                refine ⟨D3, _, rfl, .inl ⟨.of hd6, fun tp htp => ?_⟩⟩
                have ft : Fm Non H6 (upd H6 tp (.tup (z.2.map fun v => V.int (hideV (hid : Int) low v)))) := .new htp
                have f46 := f6.trans ft
                refine kt _ _ f46 ⟨ps ++ [(tp, z.2.map (hideV (hid : Int) low))], by simp, fun y hy => ?_, by rw [List.take_add_one, hz]; simp [hp3]⟩
                rcases List.mem_append.mp hy with h | h
                · exact f46.tk _ _ (hp2 y h)
                · rw [List.mem_singleton.mp h]
                  show Tu _ tp ((z.2.map (hideV (hid : Int) low)).map V.int)
                  rw [List.map_map]
                  exact upd_same
            · rintro acc2 H4 f4 hl4 hd4 ⟨ps, rfl, hp2, hp3⟩
              rw [List.take_length] at hp3
              have hpl : ps.length = qs.length := by have := congrArg List.length hp3; simpa using this
              have pw : ∀ y ∈ ps, ∃ z ∈ qs, y.2 = z.2.map (hideV (hid : Int) low) := fun y hy => by
                have : y.2 ∈ ps.map (·.2) := List.mem_map.mpr ⟨y, hy, rfl⟩
                rw [hp3] at this
                obtain ⟨z, hz, e⟩ := List.mem_map.mp this
                exact ⟨z, hz, e.symm⟩
              have pwl : ∀ y ∈ ps, y.2.length = wfOf ws i := fun y hy => by
                obtain ⟨z, hz, e⟩ := pw y hy
                rw [e, List.length_map]; exact wq z hz
              refine ⟨D2, ps, rfl, .of hd4, fun y hy => .of (hp2 y hy), by omega, fun sa L1 hsa hL1 hL2 => ?_⟩
              dsimp only [tNil]
              refine srt_rows (P := P) (w := w) (K := K) hp2 (fun z hz e0 => by have := pwl z hz; rw [e0] at this; simp at this; omega) (fun tp q2 Hd fd htp hr2 hlen hmem hall => ?_) sa L1 hsa hL1 hL2
              have fcd := f4.trans fd
              have htc2 := fcd.ob _ _ htc id
              have htabs2 := htabs.tk fcd.tk
              have hasz : acc.length ≤ 100 := by
                obtain ⟨es', J', rfl, h2, h3, _⟩ := htabs2
                have := Paired.length h2
                rw [List.length_map]; omega
              refine ⟨tl, _, _, rfl, rfl, htc2, by rw [sizeLine_eq]; omega, ?_⟩
              have ga : Fm (fun x => x = tl) Hd (upd Hd tl (.lst (acc ++ [.ref tp]))) := .mut htc2 (fun _ => lst_ne) rfl
              refine ⟨acc ++ [.ref tp], _, _, rfl, Fm_up (fc.trans fcd) htc2 htl, upd_same, (htabs2.tk ga.tk).snoc ⟨q2, ga.tk _ _ htp, fun z hz => ga.tk _ _ (hr2 z hz), rfl⟩ ⟨by omega, fun r hr => ?_, fun l hl r hr => ?_⟩⟩
              · obtain ⟨z, hz, rfl⟩ := List.mem_map.mp hr
                exact pwl z (hmem z hz)
              · rw [hrs] at hl
                cases hl
                obtain ⟨y, hy, rfl⟩ := List.mem_map.mp hr
                obtain ⟨z, hz, e⟩ := pw y (hmem y hy)
                exact ⟨z.2, by rw [← hq3]; exact List.mem_map.mpr ⟨z, hz, rfl⟩, e⟩
          · rintro σ H16 ⟨acc, x12, x13, rfl, f16, htc, htabs⟩
            rw [List.length_map, hel] at htabs
            refine ⟨_, rfl, _, rfl, _, rfl, tl, _, rfl, .inl ⟨.of htc, fun tb htb => ?_⟩⟩
            have gt : Fm Non H16 (upd H16 tb (.tup acc)) := .new htb
            obtain ⟨JT, hJT, hJTl, hJTa⟩ := (htabs.tk gt.tk).store upd_same
            have t17 := ((f15.trans f16).trans gt).tk
            have stoT : StoOk ws 4 JT := ⟨by rw [hJTl, hLl], fun j rs h => ⟨(hJTa j rs h).1, (hJTa j rs h).2.1⟩⟩
            have okT := pb_ok hok perm hgood htame (by omega) stoT
            obtain ⟨hf, fx, hm⟩ := hide_hom (T := stOf JT) (U := stOf L) (a := (hid : Int)) hlow hlt fun t r ⟨rs, h1, h2⟩ => by
              obtain ⟨l, hl⟩ : ∃ l, L[t]? = some l := ⟨_, List.getElem?_eq_getElem (by rw [← hJTl]; exact (List.getElem?_eq_some_iff.mp h1).1)⟩
              obtain ⟨r0, h3, h4⟩ := (hJTa t rs h1).2.2 l hl r h2
              exact ⟨r0, ⟨l, hl, h3⟩, h4⟩
            exact ⟨pbOf ws dl JT, sc, bk, tb, JT, okT, rfl, sta (t17 _ _ hsc14) (hbk14.tk t17), hJT, l0 stoT, fun v4 x4 H17 f17 hv4 hx4 => ⟨_, rfl, v4, v1, x4, x1, rfl, hv4, hv14.tk (fun x y h => f17.tk _ _ (t17 _ _ h)), within_of okT okA (fun d h => h) fx hm hx4 hx1, res_size okT hx4, fun H18 _ => k H18⟩⟩
end
end Nor
end
section
namespace Nor
open PySem L2 L2.NW
/-- a def of the top, as the top has written it -/
structure DefT (K : PySem.W.Frag) (x : Str) (st : Stmt) (f : Addr) : Prop where
  ns : PySem.W.nsIn K mainGlobals x = some (some (.ref f))
  lk : ∃ (oc : Value) (od an : Option Addr) (sl : Array (Option Value)) (kV dc pm cd ct : Value), K.lookup f = some ⟨oc, od, .func (PySem.W.fnOf x x (defArgs st) (defBody st) (defScope st) .none kV dc pm an cd ct), sl⟩ ∧ PySem.W.codeIn K cd x = true
  kp : PySem.W.keepIn K (.ref f) = true
/-- a method of the class, as the top has written it -/
structure DefM (K : PySem.W.Frag) (C : Addr) (x q : Str) (st : Stmt) (f : Addr) : Prop where
  fi : PySem.W.findIn K (.ref C) x = some (some (.ref f))
  fn : PySem.W.isFn K (.ref f) = true
  lk : ∃ (oc : Value) (od an : Option Addr) (sl : Array (Option Value)) (kV dc pm cd ct : Value), K.lookup f = some ⟨oc, od, .func (PySem.W.fnOf x q (defArgs st) (defBody st) (defScope st) .none kV dc pm an cd ct), sl⟩ ∧ PySem.W.codeIn K cd q = true
  kp : PySem.W.keepIn K (.ref f) = true
theorem DefT.of {K : PySem.W.Frag} {x : Str} {st : Stmt} {f : Addr} {oc kV dc pm cd ct : Value} {od an : Option Addr} {sl : Array (Option Value)} (a : PySem.W.nsIn K mainGlobals x = some (some (.ref f))) (l : K.lookup f = some ⟨oc, od, .func (PySem.W.fnOf x x (defArgs st) (defBody st) (defScope st) .none kV dc pm an cd ct), sl⟩)
    (c : PySem.W.codeIn K cd x = true) (k : PySem.W.keepIn K (.ref f) = true) : DefT K x st f := ⟨a, ⟨oc, od, an, sl, kV, dc, pm, cd, ct, l, c⟩, k⟩
theorem DefM.of {K : PySem.W.Frag} {C : Addr} {x q : Str} {st : Stmt} {f : Addr} {oc kV dc pm cd ct : Value} {od an : Option Addr} {sl : Array (Option Value)} (a : PySem.W.findIn K (.ref C) x = some (some (.ref f))) (i : PySem.W.isFn K (.ref f) = true) (l : K.lookup f = some ⟨oc, od, .func (PySem.W.fnOf x q (defArgs st) (defBody st) (defScope st) .none kV dc pm an cd ct), sl⟩)
    (c : PySem.W.codeIn K cd q = true) (k : PySem.W.keepIn K (.ref f) = true) : DefM K C x q st f := ⟨a, i, ⟨oc, od, an, sl, kV, dc, pm, cd, ct, l, c⟩, k⟩
section
variable {K : PySem.W.Frag} {h : Heap} {mg : Str → Option Value}
theorem DefT.out {x : Str} {st : Stmt} {f : Addr} {ps : List Str} (D : DefT K x st f) (X : K.In h) (G : h.Ns mainGlobals mg)
    (b : ∀ (kV doc pm : Value) (an : Option Addr) (cdv ct : Value) (us : List Value), us.length = ps.length → bindArgs (PySem.W.fnOf x x (defArgs st) (defBody st) (defScope st) .none kV doc pm an cdv ct) ⟨us, []⟩ = pure (ps.zip us)) :
    ∃ fd, Fun K x x st f fd ∧ Own K mg x f fd ps := by
  obtain ⟨oc, od, an, sl, kV, dc, pm, cd, ct, l, c⟩ := D.lk
  exact ⟨_, fun_mk l c D.kp, PySem.W.mg_of X G D.ns, D.kp, (fun_mk l c D.kp).binds b⟩
theorem DefM.out {C : Addr} {x q : Str} {st : Stmt} {f : Addr} {ps : List Str} (D : DefM K C x q st f)
    (b : ∀ (kV doc pm : Value) (an : Option Addr) (cdv ct : Value) (us : List Value), us.length = ps.length → bindArgs (PySem.W.fnOf x q (defArgs st) (defBody st) (defScope st) .none kV doc pm an cdv ct) ⟨us, []⟩ = pure (ps.zip us)) :
    ∃ fd, Fun K x q st f fd ∧ OwnM K C x f fd ps := by
  obtain ⟨oc, od, an, sl, kV, dc, pm, cd, ct, l, c⟩ := D.lk
  exact ⟨_, fun_mk l c D.kp, ⟨D.fi, D.fn, D.kp⟩, (fun_mk l c D.kp).binds b⟩
end
theorem all_mk {l : PySem.W.OpenLaw} {w : World} {K : PySem.W.Frag} {h : Heap} {mg : Str → Option Value} {fa C fL t0 t1 t2 t3 t4 t5 t6 t7 t8 t9 t10 t11 t12 t13 t14 t15 t16 t17 t18 t19 t20 t21 t22 t23 t24 m0 m1 m2 m3 m4 m5 m6 m7 m8 m9 m10 m11 m12 : Addr} (X : K.In h) (G : h.Ns mainGlobals mg) (hfa : mg "law" = some (.ref fa))
    {oc kV dc pm cd ct : Value} {od an : Option Addr} {sl : Array (Option Value)}
    (aL : PySem.W.nsIn K mainGlobals "law" = some (some (.ref fL))) (lL : K.lookup fL = some ⟨oc, od, .func (PySem.W.fnOf "law" "law" (defArgs sLaw) (defBody sLaw) (defScope sLaw) .none kV dc pm an cd ct), sl⟩) (cL : PySem.W.codeIn K cd "law" = true) (kL : PySem.W.keepIn K (.ref fL) = true)
    (aC : PySem.W.nsIn K mainGlobals "Chase" = some (some (.ref C)))
    (pg : PySem.W.plainGet K C Str.empty = true) (hd : PySem.W.hasDictIn K C = true) (po : PySem.W.plainOver K C = true) (sa : PySem.W.findIn K (.ref C) "__setattr__" = some (some (.builtin "object.__setattr__"))) (mk : PySem.W.makesIn K C = true) (kc : PySem.W.keepIn K (.ref C) = true)
    (dt0 : DefT K "picked" sPicked t0)
    (dt1 : DefT K "agree" sAgree t1)
    (dt2 : DefT K "parts_of" sPartsOf t2)
    (dt3 : DefT K "missing_rows" sMissing t3)
    (dt4 : DefT K "chased" sChased t4)
    (dt5 : DefT K "chase" sChase t5)
    (dt6 : DefT K "sure_rows" sSure t6)
    (dt7 : DefT K "_law_draws" sDraws t7)
    (dt8 : DefT K "_law_take" sTake t8)
    (dt9 : DefT K "_law_cell" sCell t9)
    (dt10 : DefT K "_law_scheme" sScheme t10)
    (dt11 : DefT K "_law_mixed" sMixed t11)
    (dt12 : DefT K "_law_columns" sColumns t12)
    (dt13 : DefT K "_law_parts" sParts t13)
    (dt14 : DefT K "_law_in_table" sInTable t14)
    (dt15 : DefT K "_law_inclusion" sInclusion t15)
    (dt16 : DefT K "_law_dependency" sDependency t16)
    (dt17 : DefT K "_law_book" sBook t17)
    (dt18 : DefT K "_law_store" sLStore t18)
    (dt19 : DefT K "_law_scene" sScene t19)
    (dt20 : DefT K "_law_bound" sBound t20)
    (dt21 : DefT K "_law_most" sMost t21)
    (dt22 : DefT K "_law_is_tame" sIsTame t22)
    (dt23 : DefT K "_law_kept" sKept t23)
    (dt24 : DefT K "_law_are_within" sAreWithin t24)
    (dm0 : DefM K C "__init__" "Chase.__init__" sInit m0)
    (dm1 : DefM K C "store" "Chase.store" sStore m1)
    (dm2 : DefM K C "replace" "Chase.replace" sReplace m2)
    (dm3 : DefM K C "new_value" "Chase.new_value" sNewValue m3)
    (dm4 : DefM K C "make_equal" "Chase.make_equal" sMakeEqual m4)
    (dm5 : DefM K C "put_in" "Chase.put_in" sPutIn m5)
    (dm6 : DefM K C "put_below" "Chase.put_below" sPutBelow m6)
    (dm7 : DefM K C "unequal" "Chase.unequal" sUnequal m7)
    (dm8 : DefM K C "settle" "Chase.settle" sSettle m8)
    (dm9 : DefM K C "fill" "Chase.fill" sFill m9)
    (dm10 : DefM K C "lead" "Chase.lead" sLead m10)
    (dm11 : DefM K C "work" "Chase.work" sWork m11)
    (dm12 : DefM K C "run" "Chase.run" sRun m12)
    (nf0 : PySem.W.findIn K (.ref C) "scheme" = some none) (nf1 : PySem.W.findIn K (.ref C) "book" = some none) (nf2 : PySem.W.findIn K (.ref C) "tables" = some none) (nf3 : PySem.W.findIn K (.ref C) "seen" = some none) (nf4 : PySem.W.findIn K (.ref C) "became" = some none) (nf5 : PySem.W.findIn K (.ref C) "steps" = some none) (nf6 : PySem.W.findIn K (.ref C) "clashed" = some none)
    (nb0 : PySem.W.nsIn K mainGlobals "tuple" = some none) (nb1 : PySem.W.nsIn K mainGlobals "range" = some none) (nb2 : PySem.W.nsIn K mainGlobals "all" = some none) (nb3 : PySem.W.nsIn K mainGlobals "sorted" = some none) (nb4 : PySem.W.nsIn K mainGlobals "len" = some none) (nb5 : PySem.W.nsIn K mainGlobals "enumerate" = some none) (nb6 : PySem.W.nsIn K mainGlobals "dict" = some none) (nb7 : PySem.W.nsIn K mainGlobals "zip" = some none) (nb8 : PySem.W.nsIn K mainGlobals "min" = some none) (nb9 : PySem.W.nsIn K mainGlobals "max" = some none) (nb10 : PySem.W.nsIn K mainGlobals "int" = some none) (nb11 : PySem.W.nsIn K mainGlobals "list" = some none) (nb12 : PySem.W.nsIn K mainGlobals "abs" = some none) (nb13 : PySem.W.nsIn K mainGlobals "set" = some none) :
    ∃ fd : FuncData, (∀ (s : Shared) (v : Value), BindsTo s fd ⟨[v], []⟩ [("_law_script", v)]) ∧ ∀ base : Heap, K.In base → base.Ns mainGlobals mg → FnOk l.prog w K mg base CX0 10 fa fd ["_law_script"] (spLaw K) := by
  have e := hfa.symm.trans (PySem.W.mg_of X G aL)
  cases e
  have T : Txt K mg C := ⟨⟨pg, hd, po, sa⟩, fun f hf => by
    simp only [List.mem_cons, List.not_mem_nil, or_false] at hf
    rcases hf with rfl | rfl | rfl | rfl | rfl | rfl | rfl
    · exact nf0
    · exact nf1
    · exact nf2
    · exact nf3
    · exact nf4
    · exact nf5
    · exact nf6
    , PySem.W.mg_of X G aC⟩
  have b_tuple := PySem.W.mg_none_of X G nb0
  have b_range := PySem.W.mg_none_of X G nb1
  have b_all := PySem.W.mg_none_of X G nb2
  have b_sorted := PySem.W.mg_none_of X G nb3
  have b_len := PySem.W.mg_none_of X G nb4
  have b_enumerate := PySem.W.mg_none_of X G nb5
  have b_dict := PySem.W.mg_none_of X G nb6
  have b_zip := PySem.W.mg_none_of X G nb7
  have b_min := PySem.W.mg_none_of X G nb8
  have b_max := PySem.W.mg_none_of X G nb9
  have b_int := PySem.W.mg_none_of X G nb10
  have b_list := PySem.W.mg_none_of X G nb11
  have b_abs := PySem.W.mg_none_of X G nb12
  have b_set := PySem.W.mg_none_of X G nb13
  obtain ⟨d0, F0, o0⟩ := dt0.out (ps := ["row", "columns"]) X G (fun _ _ _ _ _ _ us hl => match us, hl with | [_, _], _ => rfl)
  obtain ⟨d1, F1, o1⟩ := dt1.out (ps := ["one", "other", "columns"]) X G (fun _ _ _ _ _ _ us hl => match us, hl with | [_, _, _], _ => rfl)
  obtain ⟨d2, F2, o2⟩ := dt2.out (ps := ["width", "dependency"]) X G (fun _ _ _ _ _ _ us hl => match us, hl with | [_, _], _ => rfl)
  obtain ⟨d3, F3, o3⟩ := dt3.out (ps := ["width", "rows", "parts"]) X G (fun _ _ _ _ _ _ us hl => match us, hl with | [_, _, _], _ => rfl)
  obtain ⟨d4, F4, o4⟩ := dt4.out (ps := ["scheme", "book", "store"]) X G (fun _ _ _ _ _ _ us hl => match us, hl with | [_, _, _], _ => rfl)
  obtain ⟨d5, F5, o5⟩ := dt5.out (ps := ["scheme", "book", "store"]) X G (fun _ _ _ _ _ _ us hl => match us, hl with | [_, _, _], _ => rfl)
  obtain ⟨d6, F6, o6⟩ := dt6.out (ps := ["scheme", "book", "store"]) X G (fun _ _ _ _ _ _ us hl => match us, hl with | [_, _, _], _ => rfl)
  obtain ⟨d7, F7, o7⟩ := dt7.out (ps := ["_law_script", "_law_many"]) X G (fun _ _ _ _ _ _ us hl => match us, hl with | [_, _], _ => rfl)
  obtain ⟨d8, F8, o8⟩ := dt8.out (ps := ["_law_draws_here", "_law_many"]) X G (fun _ _ _ _ _ _ us hl => match us, hl with | [_, _], _ => rfl)
  obtain ⟨d9, F9, o9⟩ := dt9.out (ps := ["_law_script", "_law_draws_here"]) X G (fun _ _ _ _ _ _ us hl => match us, hl with | [_, _], _ => rfl)
  obtain ⟨d10, F10, o10⟩ := dt10.out (ps := ["_law_draws_here"]) X G (fun _ _ _ _ _ _ us hl => match us, hl with | [_], _ => rfl)
  obtain ⟨d11, F11, o11⟩ := dt11.out (ps := ["_law_draws_here", "_law_many"]) X G (fun _ _ _ _ _ _ us hl => match us, hl with | [_, _], _ => rfl)
  obtain ⟨d12, F12, o12⟩ := dt12.out (ps := ["_law_draws_here", "_law_width"]) X G (fun _ _ _ _ _ _ us hl => match us, hl with | [_, _], _ => rfl)
  obtain ⟨d13, F13, o13⟩ := dt13.out (ps := ["_law_draws_here", "_law_width"]) X G (fun _ _ _ _ _ _ us hl => match us, hl with | [_, _], _ => rfl)
  obtain ⟨d14, F14, o14⟩ := dt14.out (ps := ["_law_draws_here", "_law_scheme_here", "_law_table"]) X G (fun _ _ _ _ _ _ us hl => match us, hl with | [_, _, _], _ => rfl)
  obtain ⟨d15, F15, o15⟩ := dt15.out (ps := ["_law_draws_here", "_law_scheme_here", "_law_order"]) X G (fun _ _ _ _ _ _ us hl => match us, hl with | [_, _, _], _ => rfl)
  obtain ⟨d16, F16, o16⟩ := dt16.out (ps := ["_law_draws_here", "_law_scheme_here", "_law_order"]) X G (fun _ _ _ _ _ _ us hl => match us, hl with | [_, _, _], _ => rfl)
  obtain ⟨d17, F17, o17⟩ := dt17.out (ps := ["_law_draws_here", "_law_scheme_here", "_law_order", "_law_most_here"]) X G (fun _ _ _ _ _ _ us hl => match us, hl with | [_, _, _, _], _ => rfl)
  obtain ⟨d18, F18, o18⟩ := dt18.out (ps := ["_law_script", "_law_draws_here", "_law_scheme_here", "_law_most_here", "_law_unknown"]) X G (fun _ _ _ _ _ _ us hl => match us, hl with | [_, _, _, _, _], _ => rfl)
  obtain ⟨d19, F19, o19⟩ := dt19.out (ps := ["_law_draws_here", "_law_many"]) X G (fun _ _ _ _ _ _ us hl => match us, hl with | [_, _], _ => rfl)
  obtain ⟨d20, F20, o20⟩ := dt20.out (ps := ["_law_scheme_here", "_law_order", "_law_book_here", "_law_rows"]) X G (fun _ _ _ _ _ _ us hl => match us, hl with | [_, _, _, _], _ => rfl)
  obtain ⟨d21, F21, o21⟩ := dt21.out (ps := ["_law_width", "_law_many"]) X G (fun _ _ _ _ _ _ us hl => match us, hl with | [_, _], _ => rfl)
  obtain ⟨d22, F22, o22⟩ := dt22.out (ps := ["_law_scheme_here", "_law_order", "_law_book_here", "_law_many"]) X G (fun _ _ _ _ _ _ us hl => match us, hl with | [_, _, _, _], _ => rfl)
  obtain ⟨d23, F23, o23⟩ := dt23.out (ps := ["_law_scheme_here", "_law_order", "_law_book_here", "_law_many"]) X G (fun _ _ _ _ _ _ us hl => match us, hl with | [_, _, _, _], _ => rfl)
  obtain ⟨d24, F24, o24⟩ := dt24.out (ps := ["_law_one", "_law_other"]) X G (fun _ _ _ _ _ _ us hl => match us, hl with | [_, _], _ => rfl)
  obtain ⟨e0, M0, q0⟩ := dm0.out (ps := ["self", "scheme", "book", "store"]) (fun _ _ _ _ _ _ us hl => match us, hl with | [_, _, _, _], _ => rfl)
  obtain ⟨e1, M1, q1⟩ := dm1.out (ps := ["self"]) (fun _ _ _ _ _ _ us hl => match us, hl with | [_], _ => rfl)
  obtain ⟨e2, M2, q2⟩ := dm2.out (ps := ["self", "lesser", "greater"]) (fun _ _ _ _ _ _ us hl => match us, hl with | [_, _, _], _ => rfl)
  obtain ⟨e3, M3, q3⟩ := dm3.out (ps := ["self"]) (fun _ _ _ _ _ _ us hl => match us, hl with | [_], _ => rfl)
  obtain ⟨e4, M4, q4⟩ := dm4.out (ps := ["self", "index", "one", "other"]) (fun _ _ _ _ _ _ us hl => match us, hl with | [_, _, _, _], _ => rfl)
  obtain ⟨e5, M5, q5⟩ := dm5.out (ps := ["self", "index", "rows", "missing"]) (fun _ _ _ _ _ _ us hl => match us, hl with | [_, _, _, _], _ => rfl)
  obtain ⟨e6, M6, q6⟩ := dm6.out (ps := ["self", "index", "row"]) (fun _ _ _ _ _ _ us hl => match us, hl with | [_, _, _], _ => rfl)
  obtain ⟨e7, M7, q7⟩ := dm7.out (ps := ["self", "index"]) (fun _ _ _ _ _ _ us hl => match us, hl with | [_, _], _ => rfl)
  obtain ⟨e8, M8, q8⟩ := dm8.out (ps := ["self", "index"]) (fun _ _ _ _ _ _ us hl => match us, hl with | [_, _], _ => rfl)
  obtain ⟨e9, M9, q9⟩ := dm9.out (ps := ["self", "index"]) (fun _ _ _ _ _ _ us hl => match us, hl with | [_, _], _ => rfl)
  obtain ⟨e10, M10, q10⟩ := dm10.out (ps := ["self", "index"]) (fun _ _ _ _ _ _ us hl => match us, hl with | [_, _], _ => rfl)
  obtain ⟨e11, M11, q11⟩ := dm11.out (ps := ["self", "index"]) (fun _ _ _ _ _ _ us hl => match us, hl with | [_, _], _ => rfl)
  obtain ⟨e12, M12, q12⟩ := dm12.out (ps := ["self"]) (fun _ _ _ _ _ _ us hl => match us, hl with | [_], _ => rfl)
  have FL := fun_mk (st := sLaw) lL cL kL
  refine ⟨PySem.W.fnOf "law" "law" (defArgs sLaw) (defBody sLaw) (defScope sLaw) .none kV dc pm an cd ct, fun s v => .of_eq rfl, fun base _ _ => ?_⟩
  have g0 : FnOk l.prog w K mg base CX0 1 t0 d0 ["row", "columns"] (spPicked K) := ok_picked F0 b_tuple
  have g1 : FnOk l.prog w K mg base CX0 2 t1 d1 ["one", "other", "columns"] (spAgree K) := ok_agree F1 o0 g0
  have g2 : FnOk l.prog w K mg base CX0 1 t2 d2 ["width", "dependency"] (spPartsOf K) := ok_partsOf F2 b_tuple b_range
  have g3 : FnOk l.prog w K mg base CX0 2 t3 d3 ["width", "rows", "parts"] (spMissing K l.prog w) := ok_missing F3 o0 g0 b_tuple b_range b_all
  have k2 : ∀ A : PB, A.Ok → FnOk l.prog w K mg base CX0 1 m2 e2 ["self", "lesser", "greater"] (spReplace l.prog w C A) := fun A ok => ok_replace T M2 b_tuple
  have k3 : ∀ A : PB, A.Ok → FnOk l.prog w K mg base CX0 1 m3 e3 ["self"] (spNewV l.prog w C A) := fun A ok => ok_newV T M3
  have k4 : ∀ A : PB, A.Ok → FnOk l.prog w K mg base CX0 2 m4 e4 ["self", "index", "one", "other"] (spMakeEq l.prog w C A) := fun A ok => ok_makeEq ok T M4 q2 (k2 A ok) b_sorted
  have k5 : ∀ A : PB, A.Ok → FnOk l.prog w K mg base CX0 1 m5 e5 ["self", "index", "rows", "missing"] (spPutIn l.prog w C A) := fun A ok => ok_putIn ok T M5
  have k6 : ∀ A : PB, A.Ok → FnOk l.prog w K mg base CX0 2 m6 e6 ["self", "index", "row"] (spPutB l.prog w C A) := fun A ok => ok_putB ok T M6 o0 g0 q3 (k3 A ok) b_tuple b_range b_dict b_zip
  have k7 : ∀ A : PB, A.Ok → FnOk l.prog w K mg base CX0 3 m7 e7 ["self", "index"] (spUneq l.prog w C A) := fun A ok => ok_uneq ok T M7 o0 g0 o1 g1 b_sorted
  have k8 : ∀ A : PB, A.Ok → FnOk l.prog w K mg base CX0 4 m8 e8 ["self", "index"] (spWork l.prog w C A isSettles) := fun A ok => ok_settle ok T M8 q7 (k7 A ok) q4 (k4 A ok)
  have k9 : ∀ A : PB, A.Ok → FnOk l.prog w K mg base CX0 4 m9 e9 ["self", "index"] (spWork l.prog w C A (isParts A.wf)) := fun A ok => ok_fill ok T M9 o2 g2 o3 g3 q5 (k5 A ok) b_sorted b_len
  have k10 : ∀ A : PB, A.Ok → FnOk l.prog w K mg base CX0 4 m10 e10 ["self", "index"] (spWork l.prog w C A isWithin) := fun A ok => ok_lead ok T M10 o0 g0 q6 (k6 A ok) b_sorted
  have k11 : ∀ A : PB, A.Ok → FnOk l.prog w K mg base CX0 5 m11 e11 ["self", "index"] (spWork l.prog w C A fun _ => True) := fun A ok => ok_work ok T M11 q8 (k8 A ok) q10 (k10 A ok) q9 (k9 A ok)
  have k12 : ∀ A : PB, A.Ok → FnOk l.prog w K mg base CX0 6 m12 e12 ["self"] (spRun l.prog w C A) := fun A ok => ok_run ok T M12 q11 (k11 A ok) b_enumerate
  have k0 : ∀ A : PB, A.Ok → FnOk l.prog w K mg base CX0 1 m0 e0 ["self", "scheme", "book", "store"] (spInit l.prog w C A) := fun A ok => ok_init ok T M0
  have k1 : ∀ A : PB, A.Ok → FnOk l.prog w K mg base CX0 1 m1 e1 ["self"] (spStore l.prog w C A) := fun A ok => ok_store ok T M1 b_tuple b_sorted
  have g4 : ∀ A : PB, A.Ok → FnOk l.prog w K mg base CX0 7 t4 d4 ["scheme", "book", "store"] (spChased l.prog w C A) := fun A ok => ok_chased T F4 ⟨mk, dm0.fi, dm0.fn, kc⟩ q0.bd (k0 A ok) q12 (k12 A ok)
  have g5 : ∀ A : PB, A.Ok → FnOk l.prog w K mg base CX0 8 t5 d5 ["scheme", "book", "store"] (spChase A) := fun A ok => ok_chase T F5 o4 (g4 A ok) q1 (k1 A ok)
  have g6 : ∀ A : PB, A.Ok → FnOk l.prog w K mg base CX0 9 t6 d6 ["scheme", "book", "store"] (spSure A) := fun A ok => ok_sure ok F6 o5 (g5 A ok) b_tuple b_min
  have g7 : FnOk l.prog w K mg base CX0 1 t7 d7 ["_law_script", "_law_many"] (spDraws K) := ok_draws F7 b_int b_len b_range b_list
  have g8 : FnOk l.prog w K mg base CX0 1 t8 d8 ["_law_draws_here", "_law_many"] spTake := ok_take F8 b_int b_len
  have g9 : FnOk l.prog w K mg base CX0 2 t9 d9 ["_law_script", "_law_draws_here"] (spCellN K) := ok_cell F9 o8 g8 b_int b_len
  have g10 : FnOk l.prog w K mg base CX0 2 t10 d10 ["_law_draws_here"] spScheme := ok_scheme F10 o8 g8
  have g11 : FnOk l.prog w K mg base CX0 2 t11 d11 ["_law_draws_here", "_law_many"] spMixed := ok_mixed F11 o8 g8 b_len b_range
  have g12 : FnOk l.prog w K mg base CX0 2 t12 d12 ["_law_draws_here", "_law_width"] spCols := ok_cols F12 o8 g8 b_tuple b_range
  have g21 : FnOk l.prog w K mg base CX0 1 t21 d21 ["_law_width", "_law_many"] spMost := ok_most F21
  have g13 : FnOk l.prog w K mg base CX0 2 t13 d13 ["_law_draws_here", "_law_width"] spParts := ok_parts F13 o8 g8 b_tuple b_range b_len
  have g14 : FnOk l.prog w K mg base CX0 3 t14 d14 ["_law_draws_here", "_law_scheme_here", "_law_table"] spInT := ok_inT F14 o8 g8 o12 g12 o13 g13
  have g15 : FnOk l.prog w K mg base CX0 3 t15 d15 ["_law_draws_here", "_law_scheme_here", "_law_order"] spIncl := ok_incl F15 o8 g8 o11 g11 b_tuple b_len b_min
  have g16 : FnOk l.prog w K mg base CX0 4 t16 d16 ["_law_draws_here", "_law_scheme_here", "_law_order"] spDep := ok_dep F16 o8 g8 o15 g15 o14 g14 b_len
  have g17 : FnOk l.prog w K mg base CX0 5 t17 d17 ["_law_draws_here", "_law_scheme_here", "_law_order", "_law_most_here"] spBook := ok_book F17 o8 g8 o16 g16 b_tuple b_range
  have g20 : FnOk l.prog w K mg base CX0 1 t20 d20 ["_law_scheme_here", "_law_order", "_law_book_here", "_law_rows"] spBound := ok_bound F20 b_list b_range b_min b_max
  have g22 : FnOk l.prog w K mg base CX0 2 t22 d22 ["_law_scheme_here", "_law_order", "_law_book_here", "_law_many"] spTame := ok_tame F22 o20 g20 o21 g21
  have g23 : FnOk l.prog w K mg base CX0 3 t23 d23 ["_law_scheme_here", "_law_order", "_law_book_here", "_law_many"] spKept := ok_kept F23 o22 g22 b_len b_range
  have g19 : FnOk l.prog w K mg base CX0 6 t19 d19 ["_law_draws_here", "_law_many"] spScene := ok_scene F19 o10 g10 o11 g11 o17 g17 o23 g23 b_len
  have g18 : FnOk l.prog w K mg base CX0 3 t18 d18 ["_law_script", "_law_draws_here", "_law_scheme_here", "_law_most_here", "_law_unknown"] (spLSt K) := ok_lst F18 o8 g8 o9 g9 o21 g21 b_abs b_int b_tuple b_range b_sorted b_set
  have g24 : FnOk l.prog w K mg base CX0 1 t24 d24 ["_law_one", "_law_other"] spAre := ok_are F24 b_len b_range
  exact ok_law FL o7 g7 o19 g19 o18 g18 o16 g16 o22 g22 o6 (ok_sureA g6) o24 g24 o8 g8 b_int b_len b_range b_tuple b_sorted b_set b_min
theorem walk {l : PySem.W.OpenLaw} {q : Program} {loose : List Str} {XP : (Str → Option Value) → Heap → Prop} {YP : World → Heap → Prop} {d : DefRec} {K : Params → PySem.W.Frag} (hn : l.most = some 63) (hdf : d.params.defaults = [])
    (hY : ∀ (w : World) (h : Heap), YP w h → (K w.params).In h)
    (F : ∀ (w : World) (mg : Str → Option Value) (fa : Addr) (h : Heap), (K w.params).In h → h.Ns mainGlobals mg → mg d.name = some (.ref fa) →
      ∃ fd : FuncData, (∀ (s : Shared) (u : Value), BindsTo s fd ⟨[u], []⟩ [("_law_script", u)]) ∧ ∀ base : Heap, (K w.params).In base → base.Ns mainGlobals mg → FnOk l.prog w (K w.params) mg base CX0 10 fa fd ["_law_script"] (spLaw (K w.params))) :
    PySem.W.WalkO q loose XP YP l.row.toRowW d [] (fun f vs => PySem.call f vs) :=
  L2.walk_of (n := 63) (k := 10) (x := "_law_script") (CX := fun _ => CX0) (sp := fun w => spLaw (K w.params)) hn (by decide) hdf ⟨rfl, by decide, by decide⟩ hY F (fun _ _ a ns hl _ hS => ⟨a, ns, rfl, hS, hl, fun _ => rfl⟩) fun _ _ _ _ _ z => z
end Nor
open PySem PySem.W PyProof.Rows
end
open PySem PySem.W PyProof.Rows
set_option maxRecDepth 100000 in
set_option maxHeartbeats 0 in
theorem PySem.Challenge.cw_norowstray_k38_whole_more_rows_make_more_holds : PySem.Challenge.rw_norowstray_k38_whole_more_rows_make_more.Holds := by
  w_on; o_law; k_head; (case hw => w_witness2)
  k_fill
  refine Nor.walk (l := PySem.Challenge.rw_norowstray_k38_whole_more_rows_make_more) rfl rfl (fun w h Y => PySem.W.kIn_of Y) ?F
  case F =>
    intro w mg fa h KX G hmg
    refine' Nor.all_mk KX G hmg ?aL ?lL ?cL ?kL ?aC ?pg ?hd ?po ?sa ?mk ?kc ?dt0 ?dt1 ?dt2 ?dt3 ?dt4 ?dt5 ?dt6 ?dt7 ?dt8 ?dt9 ?dt10 ?dt11 ?dt12 ?dt13 ?dt14 ?dt15 ?dt16 ?dt17 ?dt18 ?dt19 ?dt20 ?dt21 ?dt22 ?dt23 ?dt24 ?dm0 ?dm1 ?dm2 ?dm3 ?dm4 ?dm5 ?dm6 ?dm7 ?dm8 ?dm9 ?dm10 ?dm11 ?dm12 ?nf0 ?nf1 ?nf2 ?nf3 ?nf4 ?nf5 ?nf6 ?nb0 ?nb1 ?nb2 ?nb3 ?nb4 ?nb5 ?nb6 ?nb7 ?nb8 ?nb9 ?nb10 ?nb11 ?nb12 ?nb13
    (case aL => k_is)
    (case lL => k_is)
    (case cL => k_is)
    (case kL => k_is)
    (case aC => k_is)
    (case pg => k_is)
    (case hd => k_is)
    (case po => k_is)
    (case sa => k_is)
    (case mk => k_is)
    (case kc => k_is)
    (case dt0 => (refine' Nor.DefT.of ?z1 ?z2 ?z3 ?z4; (case z1 => k_is); (case z2 => k_is); (case z3 => k_is); (case z4 => k_is)))
    (case dt1 => (refine' Nor.DefT.of ?z1 ?z2 ?z3 ?z4; (case z1 => k_is); (case z2 => k_is); (case z3 => k_is); (case z4 => k_is)))
    (case dt2 => (refine' Nor.DefT.of ?z1 ?z2 ?z3 ?z4; (case z1 => k_is); (case z2 => k_is); (case z3 => k_is); (case z4 => k_is)))
    (case dt3 => (refine' Nor.DefT.of ?z1 ?z2 ?z3 ?z4; (case z1 => k_is); (case z2 => k_is); (case z3 => k_is); (case z4 => k_is)))
    (case dt4 => (refine' Nor.DefT.of ?z1 ?z2 ?z3 ?z4; (case z1 => k_is); (case z2 => k_is); (case z3 => k_is); (case z4 => k_is)))
    (case dt5 => (refine' Nor.DefT.of ?z1 ?z2 ?z3 ?z4; (case z1 => k_is); (case z2 => k_is); (case z3 => k_is); (case z4 => k_is)))
    (case dt6 => (refine' Nor.DefT.of ?z1 ?z2 ?z3 ?z4; (case z1 => k_is); (case z2 => k_is); (case z3 => k_is); (case z4 => k_is)))
    (case dt7 => (refine' Nor.DefT.of ?z1 ?z2 ?z3 ?z4; (case z1 => k_is); (case z2 => k_is); (case z3 => k_is); (case z4 => k_is)))
    (case dt8 => (refine' Nor.DefT.of ?z1 ?z2 ?z3 ?z4; (case z1 => k_is); (case z2 => k_is); (case z3 => k_is); (case z4 => k_is)))
    (case dt9 => (refine' Nor.DefT.of ?z1 ?z2 ?z3 ?z4; (case z1 => k_is); (case z2 => k_is); (case z3 => k_is); (case z4 => k_is)))
    (case dt10 => (refine' Nor.DefT.of ?z1 ?z2 ?z3 ?z4; (case z1 => k_is); (case z2 => k_is); (case z3 => k_is); (case z4 => k_is)))
    (case dt11 => (refine' Nor.DefT.of ?z1 ?z2 ?z3 ?z4; (case z1 => k_is); (case z2 => k_is); (case z3 => k_is); (case z4 => k_is)))
    (case dt12 => (refine' Nor.DefT.of ?z1 ?z2 ?z3 ?z4; (case z1 => k_is); (case z2 => k_is); (case z3 => k_is); (case z4 => k_is)))
    (case dt13 => (refine' Nor.DefT.of ?z1 ?z2 ?z3 ?z4; (case z1 => k_is); (case z2 => k_is); (case z3 => k_is); (case z4 => k_is)))
    (case dt14 => (refine' Nor.DefT.of ?z1 ?z2 ?z3 ?z4; (case z1 => k_is); (case z2 => k_is); (case z3 => k_is); (case z4 => k_is)))
    (case dt15 => (refine' Nor.DefT.of ?z1 ?z2 ?z3 ?z4; (case z1 => k_is); (case z2 => k_is); (case z3 => k_is); (case z4 => k_is)))
    (case dt16 => (refine' Nor.DefT.of ?z1 ?z2 ?z3 ?z4; (case z1 => k_is); (case z2 => k_is); (case z3 => k_is); (case z4 => k_is)))
    (case dt17 => (refine' Nor.DefT.of ?z1 ?z2 ?z3 ?z4; (case z1 => k_is); (case z2 => k_is); (case z3 => k_is); (case z4 => k_is)))
    (case dt18 => (refine' Nor.DefT.of ?z1 ?z2 ?z3 ?z4; (case z1 => k_is); (case z2 => k_is); (case z3 => k_is); (case z4 => k_is)))
    (case dt19 => (refine' Nor.DefT.of ?z1 ?z2 ?z3 ?z4; (case z1 => k_is); (case z2 => k_is); (case z3 => k_is); (case z4 => k_is)))
    (case dt20 => (refine' Nor.DefT.of ?z1 ?z2 ?z3 ?z4; (case z1 => k_is); (case z2 => k_is); (case z3 => k_is); (case z4 => k_is)))
    (case dt21 => (refine' Nor.DefT.of ?z1 ?z2 ?z3 ?z4; (case z1 => k_is); (case z2 => k_is); (case z3 => k_is); (case z4 => k_is)))
    (case dt22 => (refine' Nor.DefT.of ?z1 ?z2 ?z3 ?z4; (case z1 => k_is); (case z2 => k_is); (case z3 => k_is); (case z4 => k_is)))
    (case dt23 => (refine' Nor.DefT.of ?z1 ?z2 ?z3 ?z4; (case z1 => k_is); (case z2 => k_is); (case z3 => k_is); (case z4 => k_is)))
    (case dt24 => (refine' Nor.DefT.of ?z1 ?z2 ?z3 ?z4; (case z1 => k_is); (case z2 => k_is); (case z3 => k_is); (case z4 => k_is)))
    (case dm0 => (refine' Nor.DefM.of ?z0 ?z1 ?z2 ?z3 ?z4; (case z0 => k_is); (case z1 => k_is); (case z2 => k_is); (case z3 => k_is); (case z4 => k_is)))
    (case dm1 => (refine' Nor.DefM.of ?z0 ?z1 ?z2 ?z3 ?z4; (case z0 => k_is); (case z1 => k_is); (case z2 => k_is); (case z3 => k_is); (case z4 => k_is)))
    (case dm2 => (refine' Nor.DefM.of ?z0 ?z1 ?z2 ?z3 ?z4; (case z0 => k_is); (case z1 => k_is); (case z2 => k_is); (case z3 => k_is); (case z4 => k_is)))
    (case dm3 => (refine' Nor.DefM.of ?z0 ?z1 ?z2 ?z3 ?z4; (case z0 => k_is); (case z1 => k_is); (case z2 => k_is); (case z3 => k_is); (case z4 => k_is)))
    (case dm4 => (refine' Nor.DefM.of ?z0 ?z1 ?z2 ?z3 ?z4; (case z0 => k_is); (case z1 => k_is); (case z2 => k_is); (case z3 => k_is); (case z4 => k_is)))
    (case dm5 => (refine' Nor.DefM.of ?z0 ?z1 ?z2 ?z3 ?z4; (case z0 => k_is); (case z1 => k_is); (case z2 => k_is); (case z3 => k_is); (case z4 => k_is)))
    (case dm6 => (refine' Nor.DefM.of ?z0 ?z1 ?z2 ?z3 ?z4; (case z0 => k_is); (case z1 => k_is); (case z2 => k_is); (case z3 => k_is); (case z4 => k_is)))
    (case dm7 => (refine' Nor.DefM.of ?z0 ?z1 ?z2 ?z3 ?z4; (case z0 => k_is); (case z1 => k_is); (case z2 => k_is); (case z3 => k_is); (case z4 => k_is)))
    (case dm8 => (refine' Nor.DefM.of ?z0 ?z1 ?z2 ?z3 ?z4; (case z0 => k_is); (case z1 => k_is); (case z2 => k_is); (case z3 => k_is); (case z4 => k_is)))
    (case dm9 => (refine' Nor.DefM.of ?z0 ?z1 ?z2 ?z3 ?z4; (case z0 => k_is); (case z1 => k_is); (case z2 => k_is); (case z3 => k_is); (case z4 => k_is)))
    (case dm10 => (refine' Nor.DefM.of ?z0 ?z1 ?z2 ?z3 ?z4; (case z0 => k_is); (case z1 => k_is); (case z2 => k_is); (case z3 => k_is); (case z4 => k_is)))
    (case dm11 => (refine' Nor.DefM.of ?z0 ?z1 ?z2 ?z3 ?z4; (case z0 => k_is); (case z1 => k_is); (case z2 => k_is); (case z3 => k_is); (case z4 => k_is)))
    (case dm12 => (refine' Nor.DefM.of ?z0 ?z1 ?z2 ?z3 ?z4; (case z0 => k_is); (case z1 => k_is); (case z2 => k_is); (case z3 => k_is); (case z4 => k_is)))
    (case nf0 => k_is)
    (case nf1 => k_is)
    (case nf2 => k_is)
    (case nf3 => k_is)
    (case nf4 => k_is)
    (case nf5 => k_is)
    (case nf6 => k_is)
    (case nb0 => k_is)
    (case nb1 => k_is)
    (case nb2 => k_is)
    (case nb3 => k_is)
    (case nb4 => k_is)
    (case nb5 => k_is)
    (case nb6 => k_is)
    (case nb7 => k_is)
    (case nb8 => k_is)
    (case nb9 => k_is)
    (case nb10 => k_is)
    (case nb11 => k_is)
    (case nb12 => k_is)
    (case nb13 => k_is)
