import PyProof.Rows.All
import Wide.All
import OpenK.AllK
import Wide.FinOn
import HandS.ForMost
import HandS.Star
import HandS.Flow
import KE.KDictKeyed
import KE.KeyNested
import PyProof.Rows.EqDataRows
import PyProof.ReprRoads
import KE.SortData
import KE.SortKeyHeap
import KE.KDictPairs
import KE.DataCmp
import KE.LtData
import HandS.TupAny
import HandS.Conv
import HandS.Zip
import HandS.IsInst
import HandS.Lambda
import HandS.Wide
import KE.KEqNest
import HandS.TupMul
import HandS.RaiseMore
import HandS.Strs
import PyProof.P3In
import KE.KDictSum
import KE.KDictCopyH
import KE.KIndexOf
import PyProof.WalksMore
import PyProof.MinMaxWalk
import PyProof.TupleIter
import PyProof.WalkInts
import KE.DataMinMax
import HandS.Text
import HandS.SetFor
import HandS.ExcValue
import HandS.Nested
import HandS.Style
import KE.GoesEnum
import HandS.Walk
import HandS.NoneIn
import PyProof.ReprBulk
import PyProof.ReprLen
import HandS.Ends
import HandS.EndTab
import HandS.EndBits
import HandS.Head0
import HandS.Head1
import HandS.Head2
import HandS.HeadEnd
import HandS.HeadHook1
import HandS.HeadHook2
import HandS.HeadHook3
import HandS.HeadHook4
import HandS.Defaults
import HandS.NestedK
import KE.KNestM
import PySem.Challenge.RW_oncestream_k11_tallies
set_option Elab.async false
section
set_option linter.all false
set_option maxRecDepth 100000
set_option maxHeartbeats 4000000
/-! OsA: data over the abstract heap. Dat G H v d: the value v reads as the data d, its lists and dicts stand where G says. -/
namespace Os
open PySem PySem.Spec PyProof.Rows L2

abbrev D := PyData
instance : Inhabited D := ⟨.none⟩

mutual
/-- what a value is as a key of a dict -/
def keyOf : D → Option NestedKey
  | .none => some .none
  | .bool b => some (.num (if b = true then 1 else 0))
  | .int i => some (.num i)
  | .str x => some (.text x)
  | .list _ => none
  | .dict _ => none
  | .tuple xs => (keysOf xs).map NestedKey.tup
def keysOf : List D → Option (List NestedKey)
  | [] => some []
  | x :: xs => (keyOf x).bind fun k => (keysOf xs).map fun ks => k :: ks
end

mutual
/-- no list and no dict in it -/
def imm : D → Bool
  | .list _ => false
  | .dict _ => false
  | .tuple xs => immAll xs
  | .none => true
  | .bool _ => true
  | .int _ => true
  | .str _ => true
def immAll : List D → Bool
  | [] => true
  | x :: xs => imm x && immAll xs
end

/-- a key that may be asked for -/
def keyD (d : D) : Option NestedKey := (keyOf d).bind fun k => if k.depth ≤ 8 then some k else none
/-- a dict of ours: keys of any kind, told by what they are -/
def dO (w : World) (a : Addr) (es : List (NestedKey × V × V)) : HO := .ext fun h => (a == sysModules) = false ∧ es.length ≤ sizeLine ∧ ∃ (o : Obj) (ds : Array DictEntry) (ep : Nat), h.get? a = some o ∧ o.ExactDict ∧ o.data = .dict ds ep ∧
  Paired (fun (e : NestedKey × V × V) (d : DictEntry) => d.hash = e.1.hash w ∧ RelV e.2.1 d.key ∧ RelV e.2.2 d.val) es ds.toList ∧ (es.map (·.1)).Nodup ∧ ∀ e ∈ es, e.1.depth ≤ 8

mutual
inductive Dat (w : World) (G : Addr → Prop) (H : Hp) : V → D → Prop
  | none : Dat w G H .non .none
  | bool (b) : Dat w G H (.bl b) (.bool b)
  | int (i) : Dat w G H (.int i) (.int i)
  | str (x) : Dat w G H (.str x) (.str x)
  | list {a vs xs} : G a → H a = some (.lst vs) → Dats w G H vs xs → Dat w G H (.ref a) (.list xs)
  | tup {a o vs xs} : H a = some (.frz o (.tup vs)) → o.dict = .none → Dats w G H vs xs → Dat w G H (.ref a) (.tuple xs)
  | dict {a} {es : List (NestedKey × V × V)} {kvs : List (D × D)} : G a → H a = some (dO w a es) → Dats w G H (es.map (·.2.1)) (kvs.map (·.1)) → Dats w G H (es.map (·.2.2)) (kvs.map (·.2)) →
      keysOf (kvs.map (·.1)) = some (es.map (·.1)) → Dat w G H (.ref a) (.dict kvs)
inductive Dats (w : World) (G : Addr → Prop) (H : Hp) : List V → List D → Prop
  | nil : Dats w G H [] []
  | cons {v vs d ds} : Dat w G H v d → Dats w G H vs ds → Dats w G H (v :: vs) (d :: ds)
end

section
variable {w : World} {G G' : Addr → Prop} {H H' : Hp}
mutual
theorem Dat.go (hk : ∀ b o, G b → H b = some o → H' b = some o ∧ G' b) (ht : ∀ b o xs, H b = some (.frz o (.tup xs)) → H' b = some (.frz o (.tup xs))) : ∀ {v : V} {d : D}, Dat w G H v d → Dat w G' H' v d
  | _, _, .none => .none
  | _, _, .bool b => .bool b
  | _, _, .int i => .int i
  | _, _, .str x => .str x
  | _, _, .list g e r => .list (hk _ _ g e).2 (hk _ _ g e).1 (Dats.go hk ht r)
  | _, _, .tup e n r => .tup (ht _ _ _ e) n (Dats.go hk ht r)
  | _, _, .dict g e r q k => .dict (hk _ _ g e).2 (hk _ _ g e).1 (Dats.go hk ht r) (Dats.go hk ht q) k
theorem Dats.go (hk : ∀ b o, G b → H b = some o → H' b = some o ∧ G' b) (ht : ∀ b o xs, H b = some (.frz o (.tup xs)) → H' b = some (.frz o (.tup xs))) : ∀ {vs : List V} {ds : List D}, Dats w G H vs ds → Dats w G' H' vs ds
  | _, _, .nil => .nil
  | _, _, .cons r q => .cons (Dat.go hk ht r) (Dats.go hk ht q)
end
theorem Dat.mono {v : V} {d : D} (r : Dat w G H v d) (h : ∀ b, G b → G' b) : Dat w G' H v d := Dat.go (fun b o g e => ⟨e, h b g⟩) (fun _ _ _ e => e) r
theorem Dats.mono {vs : List V} {ds : List D} (r : Dats w G H vs ds) (h : ∀ b, G b → G' b) : Dats w G' H vs ds := Dats.go (fun b o g e => ⟨e, h b g⟩) (fun _ _ _ e => e) r
theorem Dat.same {v : V} {d : D} (r : Dat w G H v d) (h : Same H H') : Dat w G H' v d := Dat.go (fun b o g e => ⟨h b o e, g⟩) (fun b _ _ e => h b _ e) r
theorem Dats.same {vs : List V} {ds : List D} (r : Dats w G H vs ds) (h : Same H H') : Dats w G H' vs ds := Dats.go (fun b o g e => ⟨h b o e, g⟩) (fun b _ _ e => h b _ e) r
mutual
/-- what holds no list and no dict hangs on the tuples alone -/
theorem Dat.imm (ht : ∀ b o xs, H b = some (.frz o (.tup xs)) → H' b = some (.frz o (.tup xs))) : ∀ {v : V} {d : D}, Dat w G H v d → imm d = true → Dat w G' H' v d
  | _, _, .none, _ => .none
  | _, _, .bool b, _ => .bool b
  | _, _, .int i, _ => .int i
  | _, _, .str x, _ => .str x
  | _, _, .list g e r, h => by simp [Os.imm] at h
  | _, _, .tup e n r, h => .tup (ht _ _ _ e) n (Dats.imm ht r (by simpa [Os.imm] using h))
  | _, _, .dict g e r q k, h => by simp [Os.imm] at h
theorem Dats.imm (ht : ∀ b o xs, H b = some (.frz o (.tup xs)) → H' b = some (.frz o (.tup xs))) : ∀ {vs : List V} {ds : List D}, Dats w G H vs ds → immAll ds = true → Dats w G' H' vs ds
  | _, _, .nil, _ => .nil
  | _, _, .cons r q, h => by
    rw [immAll, Bool.and_eq_true] at h
    exact .cons (Dat.imm ht r h.1) (Dats.imm ht q h.2)
end
theorem Dats.length : ∀ {vs : List V} {ds : List D}, Dats w G H vs ds → vs.length = ds.length
  | _, _, .nil => rfl
  | _, _, .cons _ q => by simp [Dats.length q]
theorem Dats.get : ∀ {vs : List V} {ds : List D} {i : Nat} {d : D}, Dats w G H vs ds → ds[i]? = some d → ∃ v, vs[i]? = some v ∧ Dat w G H v d
  | _, _, _, _, .nil, e => by simp at e
  | _, _, 0, _, .cons r _, e => by
    simp at e
    subst e
    exact ⟨_, rfl, r⟩
  | _, _, i + 1, d, .cons _ q, e => by
    obtain ⟨v, h1, h2⟩ := Dats.get (i := i) (d := d) q (by simpa using e)
    exact ⟨v, by simpa using h1, h2⟩
theorem Dats.getV : ∀ {vs : List V} {ds : List D} {i : Nat} {v : V}, Dats w G H vs ds → vs[i]? = some v → ∃ d, ds[i]? = some d ∧ Dat w G H v d
  | _, _, _, _, .nil, e => by simp at e
  | _, _, 0, _, .cons r _, e => by
    simp at e
    subst e
    exact ⟨_, rfl, r⟩
  | _, _, i + 1, v, .cons _ q, e => by
    obtain ⟨d, h1, h2⟩ := Dats.getV (i := i) (v := v) q (by simpa using e)
    exact ⟨d, by simpa using h1, h2⟩
theorem Dats.append : ∀ {vs ws : List V} {ds es : List D}, Dats w G H vs ds → Dats w G H ws es → Dats w G H (vs ++ ws) (ds ++ es)
  | _, _, _, _, .nil, q => q
  | _, _, _, _, .cons r t, q => .cons r (Dats.append t q)
theorem Dats.take : ∀ {vs : List V} {ds : List D} (n : Nat), Dats w G H vs ds → Dats w G H (vs.take n) (ds.take n)
  | _, _, 0, _ => .nil
  | _, _, _ + 1, .nil => .nil
  | _, _, n + 1, .cons r t => .cons r (Dats.take n t)
theorem Dats.drop : ∀ {vs : List V} {ds : List D} (n : Nat), Dats w G H vs ds → Dats w G H (vs.drop n) (ds.drop n)
  | _, _, 0, r => r
  | _, _, _ + 1, .nil => .nil
  | _, _, n + 1, .cons _ t => Dats.drop n t
theorem Dats.flat : ∀ {vss : List (List V)} {dss : List (List D)}, Paired (fun vs ds => Dats w G H vs ds) vss dss → Dats w G H vss.flatten dss.flatten
  | _, _, .nil => .nil
  | _, _, .cons r t => by
    rw [List.flatten_cons, List.flatten_cons]
    exact r.append (Dats.flat t)
theorem Dats.rep {v : V} {d : D} (r : Dat w G H v d) : ∀ n, Dats w G H (List.replicate n v) (List.replicate n d)
  | 0 => .nil
  | n + 1 => .cons r (Dats.rep r n)
theorem Dats.rev : ∀ {vs : List V} {ds : List D}, Dats w G H vs ds → Dats w G H vs.reverse ds.reverse
  | _, _, .nil => .nil
  | _, _, .cons r t => by
    rw [List.reverse_cons, List.reverse_cons]
    exact (Dats.rev t).append (.cons r .nil)
end

/-! ### as the library reads it -/
section
variable {P : Program} {w : World} {G : Addr → Prop} {H : Hp} {h : Heap}
theorem dats_of {α : Type} {f : α → V} {g : α → Value} : ∀ {l : List α}, (∀ x ∈ l, RelV (f x) (g x)) → Vals (l.map f) (l.map g)
  | [], _ => .nil
  | x :: l, q => .cons (q x (List.mem_cons_self ..)) (dats_of fun y hy => q y (List.mem_cons_of_mem _ hy))
theorem vals_keys : ∀ {es : List (NestedKey × V × V)} {ds : List DictEntry}, Paired (fun (e : NestedKey × V × V) (d : DictEntry) => d.hash = e.1.hash w ∧ RelV e.2.1 d.key ∧ RelV e.2.2 d.val) es ds → Vals (es.map (·.2.1)) (ds.map (·.key)) ∧ Vals (es.map (·.2.2)) (ds.map (·.val))
  | _, _, .nil => ⟨.nil, .nil⟩
  | _, _, .cons r t => ⟨.cons r.2.1 (vals_keys t).1, .cons r.2.2 (vals_keys t).2⟩
mutual
theorem Dat.reads (hok : HOk P w H h) : ∀ {v : V} {d : D} {u : Value}, Dat w G H v d → RelV v u → ∃ as, Reads h u d as
  | _, _, _, .none, q => by
    cases q
    exact ⟨[], .none⟩
  | _, _, _, .bool b, q => by
    cases q
    exact ⟨[], .bool b⟩
  | _, _, _, .int i, q => by
    obtain ⟨t, rfl⟩ := q
    exact ⟨[], .int i t⟩
  | _, _, _, .str x, q => by
    obtain ⟨t, rfl⟩ := q
    exact ⟨[], .str x t⟩
  | _, _, _, .list (a := a) g e r, q => by
    cases q
    obtain ⟨_, its, n, rv, eo⟩ := hok _ _ e
    obtain ⟨as, ra⟩ := Dats.reads hok r rv
    exact ⟨a :: as, .list eo rfl rfl (by simpa using ra)⟩
  | _, _, _, .tup e nd r, q => by
    cases q
    obtain ⟨_, _, its, rv, o, eo, c, n, dd⟩ := hok _ _ e
    obtain ⟨as, ra⟩ := Dats.reads hok r rv
    exact ⟨as, .tuple eo c dd (by simpa using ra)⟩
  | _, _, _, .dict (a := a) g e r s k, q => by
    cases q
    obtain ⟨⟨_, _, o, ds, ep, eo, ed, dd, pr, _⟩, _, _⟩ := hok _ _ e
    obtain ⟨vk, vv⟩ := vals_keys pr
    obtain ⟨as, ra⟩ := Dats.reads hok r vk
    obtain ⟨bs, rb⟩ := Dats.reads hok s vv
    exact ⟨a :: as ++ bs, .dict eo ed.1 dd ra rb⟩
theorem Dats.reads (hok : HOk P w H h) : ∀ {vs : List V} {ds : List D} {us : List Value}, Dats w G H vs ds → Vals vs us → ∃ as, ReadsAll h us ds as
  | _, _, _, .nil, q => by
    cases q
    exact ⟨[], .nil⟩
  | _, _, _, .cons r t, q => by
    cases q with
    | cons q1 q2 =>
      obtain ⟨as, ra⟩ := Dat.reads hok r q1
      obtain ⟨bs, rb⟩ := Dats.reads hok t q2
      exact ⟨as ++ bs, .cons ra rb⟩
end
mutual
theorem Dat.nested (hok : HOk P w H h) : ∀ {v : V} {d : D} {u : Value} {k : NestedKey}, Dat w G H v d → RelV v u → keyOf d = some k → NestedIs h k u
  | _, _, _, _, .none, q, e => by
    cases q
    simp [keyOf] at e
    subst e
    exact .none
  | _, _, _, _, .bool b, q, e => by
    cases q
    simp [keyOf] at e
    subst e
    exact .bool rfl
  | _, _, _, _, .int i, q, e => by
    obtain ⟨t, rfl⟩ := q
    simp [keyOf] at e
    subst e
    exact .int i t
  | _, _, _, _, .str x, q, e => by
    obtain ⟨t, rfl⟩ := q
    simp [keyOf] at e
    subst e
    exact .text x t
  | _, _, _, _, .list g e r, q, z => by simp [keyOf] at z
  | _, _, _, _, .tup e nd r, q, z => by
    cases q
    rw [keyOf, Option.map_eq_some_iff] at z
    obtain ⟨ks, z, rfl⟩ := z
    obtain ⟨_, _, its, rv, o, eo, c, n, dd⟩ := hok _ _ e
    exact .tup eo c dd (by simpa using Dats.nested hok r rv z)
  | _, _, _, _, .dict g e r s k, q, z => by simp [keyOf] at z
theorem Dats.nested (hok : HOk P w H h) : ∀ {vs : List V} {ds : List D} {us : List Value} {ks : List NestedKey}, Dats w G H vs ds → Vals vs us → keysOf ds = some ks → NestedAll h ks us
  | _, _, _, _, .nil, q, e => by
    cases q
    simp [keysOf] at e
    subst e
    exact .nil
  | _, _, _, _, .cons r t, q, e => by
    cases q with
    | cons q1 q2 =>
      rw [keysOf, Option.bind_eq_some_iff] at e
      obtain ⟨k, e1, e2⟩ := e
      rw [Option.map_eq_some_iff] at e2
      obtain ⟨ks, e2, rfl⟩ := e2
      exact .cons (Dat.nested hok r q1 e1) (Dats.nested hok t q2 e2)
end
end
end Os
end
section
set_option linter.all false
set_option maxRecDepth 100000
set_option maxHeartbeats 4000000
/-! OyA: dicts whose keys are keys of any kind, mixed too: what the machine does at them. -/
namespace Os
open PySem PySem.Spec PySem.SeqAt PyProof.Rows

abbrev Ent := NestedKey × Value × Value
def entD (w : World) (x : Ent) : DictEntry := ⟨x.1.hash w, x.2.1, x.2.2⟩
structure EntOk (w : World) (h : Heap) (xs : List Ent) (es : Array DictEntry) : Prop where
  eq : es.toList = xs.map (entD w)
  is : ∀ x ∈ xs, NestedIs h x.1 x.2.1 ∧ x.1.depth ≤ 8
  nd : (xs.map (·.1)).Nodup
def kIdx (xs : List Ent) (k : NestedKey) : Option Nat := xs.findIdx? fun x => decide (x.1 = k)
theorem kIdx_some {xs : List Ent} {k : NestedKey} {i : Nat} (h : kIdx xs k = some i) : ∃ p, xs[i]? = some (k, p) := by
  unfold kIdx at h
  rw [List.findIdx?_eq_some_iff_getElem] at h
  obtain ⟨hl, h1, _⟩ := h
  have h2 := of_decide_eq_true h1
  exact ⟨xs[i].2, by rw [List.getElem?_eq_getElem hl, ← h2]⟩
theorem kIdx_none {xs : List Ent} {k : NestedKey} (h : kIdx xs k = none) {i : Nat} {p : Value × Value} : xs[i]? ≠ some (k, p) := by
  intro z
  unfold kIdx at h
  rw [List.findIdx?_eq_none_iff] at h
  have := h _ (List.mem_of_getElem? z)
  simp at this
theorem kIdx_get {xs : List Ent} (nd : (xs.map (·.1)).Nodup) {k : NestedKey} {i : Nat} {p : Value × Value} (h : xs[i]? = some (k, p)) : kIdx xs k = some i := by
  cases e : kIdx xs k with
  | none => exact absurd h (kIdx_none e)
  | some j =>
    obtain ⟨q, hq⟩ := kIdx_some e
    have e1 : (xs.map (·.1))[i]? = some k := by rw [List.getElem?_map, h]; rfl
    have e2 : (xs.map (·.1))[j]? = some k := by rw [List.getElem?_map, hq]; rfl
    rw [(List.getElem?_inj (List.getElem?_eq_some_iff.mp e2).1 nd).mp (e2.trans e1.symm)]
section
variable {prog : Program} {w : World} {A : Around} {E : Value → Shared → Prop} {s : Shared} {xs : List Ent} {es : Array DictEntry} {k : NestedKey} {u : Value}
theorem EntOk.at {h : Heap} (x : EntOk w h xs es) (i : Nat) : es[i]? = xs[i]?.map (entD w) := by
  rw [← Array.getElem?_toList, x.eq, List.getElem?_map]
theorem EntOk.size {h : Heap} (x : EntOk w h xs es) : es.size = xs.length := by
  rw [← Array.length_toList, x.eq, List.length_map]
theorem quiet_of {v : Value} {n : Nat} (h : NestedIs s.heap k v) (hd : k.depth ≤ n) {Q : Bool → Shared → Prop} (q : Q true s) : wpAny (model prog w) A (eqIsQuiet n v) Q E s := quiet_key k v n s h hd A E Q q
theorem eq_of {k' : NestedKey} {v : Value} (hu : A.units + 8 < cLine) (h : NestedIs s.heap k' v) (hd : k'.depth ≤ 8) (h' : NestedIs s.heap k u) {Q : Bool → Shared → Prop} (q : Q (decide (k' = k)) s) : wpAny (model prog w) A (eqBool v u) Q E s :=
  eqAt_key k' k A s v u h h' (by omega) _ _ _ _ (by rw [← NestedKey.decide_eq]; exact q)
theorem tells_no {stored : List Value} {Q : Bool → Shared → Prop} (hk : NestedIs s.heap k u) (hd : k.depth ≤ 8) (hs : ∀ v ∈ stored, ∃ k', NestedIs s.heap k' v ∧ k'.depth ≤ 8) (q : Q false s) : wpAny (model prog w) A (tableMayTell u stored) Q E s := by
  unfold tableMayTell
  split
  · exact wpAny_pure q
  refine wpAny_bind (quiet_of hk hd ?_)
  simp only [Bool.not_true, Bool.false_eq_true, if_false]
  refine wpAny_bind (wpAny_forIn_list _ (fun l b t => t = s ∧ b = (none, ()) ∧ ∀ v ∈ l, ∃ k', NestedIs s.heap k' v ∧ k'.depth ≤ 8) _ (fun v l b t ⟨e1, e2, e3⟩ => ?_) (fun b t ⟨e1, e2, _⟩ => ?_) _ _ ⟨rfl, rfl, hs⟩)
  · subst e1 e2
    obtain ⟨k', h1, h2⟩ := e3 v List.mem_cons_self
    refine wpAny_bind (quiet_of h1 h2 ?_)
    simp only [Bool.not_true, Bool.false_eq_true, if_false]
    exact wpAny_pure ⟨rfl, rfl, fun y hy => e3 y (List.mem_cons_of_mem _ hy)⟩
  · subst e1 e2
    exact wpAny_pure q
/-- the places that are asked -/
def askP (xs : List Ent) (w : World) (k : NestedKey) (i : Nat) : Bool := (xs[i]?.map fun x => x.1.hash w) == some (k.hash w)
theorem places_eq (x : EntOk w s.heap xs es) : placesWithHash es.size (fun i => es[i]?.map (·.hash)) (k.hash w) = (List.range xs.length).filter (askP xs w k) := by
  rw [placesWithHash, x.size]
  refine List.filter_congr fun i _ => ?_
  rw [x.at i]
  unfold askP
  cases xs[i]? <;> rfl
theorem ask_hit {i : Nat} (h : kIdx xs k = some i) : i ∈ (List.range xs.length).filter (askP xs w k) := by
  obtain ⟨p, hp⟩ := kIdx_some h
  rw [List.mem_filter, List.mem_range]
  refine ⟨(List.getElem?_eq_some_iff.mp hp).1, ?_⟩
  unfold askP
  rw [hp]
  simp
theorem ask_mem {i : Nat} (h : i ∈ (List.range xs.length).filter (askP xs w k)) : ∃ y, xs[i]? = some y ∧ y.1.hash w = k.hash w := by
  rw [List.mem_filter, List.mem_range] at h
  obtain ⟨h1, h2⟩ := h
  refine ⟨xs[i], List.getElem?_eq_getElem h1, ?_⟩
  unfold askP at h2
  rw [List.getElem?_eq_getElem h1] at h2
  simpa using h2
theorem ask_nodup : ((List.range xs.length).filter (askP xs w k)).Nodup := List.nodup_range.filter _
/-- the loop over the places: early out, or the hit kept -/
theorem scan {f : Nat → Option (Option Nat) × Option Nat → Sem (ForInStep (Option (Option Nat) × Option Nat))} {Q : Option (Option Nat) × Option Nat → Shared → Prop} (nd : (xs.map (·.1)).Nodup)
    (hf : ∀ i y h, xs[i]? = some y → y.1.hash w = k.hash w → (y.1 = k → h = none) → wpAny (model prog w) A (f i (none, h)) (fun r t => t = s ∧ if y.1 = k then r = .done (some (some i), h) ∨ r = .yield (none, some i) else r = .yield (none, h)) E s)
    (q : ∀ b, (b.1 = none ∧ b.2 = kIdx xs k) ∨ (b.1 = some (kIdx xs k)) → Q b s) : wpAny (model prog w) A (forIn ((List.range xs.length).filter (askP xs w k)) (none, none) f) Q E s := by
  have key : ∀ (l : List Nat) (h : Option Nat), l.Nodup → (∀ i ∈ l, ∃ y, xs[i]? = some y ∧ y.1.hash w = k.hash w) → (h = none ∨ h = kIdx xs k) → (∀ i, kIdx xs k = some i → (i ∈ l ∧ h = none) ∨ h = some i) → (∀ i, h = some i → i ∉ l) →
      wpAny (model prog w) A (forIn l ((none : Option (Option Nat)), h) f) Q E s := by
    intro l
    induction l with
    | nil =>
      intro h _ _ h1 h2 _
      rw [List.forIn_nil]
      refine wpAny_pure (q _ (.inl ⟨rfl, ?_⟩))
      rcases h1 with h1 | h1
      · subst h1
        cases e : kIdx xs k with
        | none => rfl
        | some i =>
          rcases h2 i e with z | z
          · exact absurd z.1 (by simp)
          · cases z
      · exact h1
    | cons i l ih =>
      intro h nl hm h1 h2 h3
      rw [List.forIn_cons]
      obtain ⟨y, hy, hh⟩ := hm i List.mem_cons_self
      have nl2 := List.nodup_cons.mp nl
      have here : y.1 = k → kIdx xs k = some i := fun e => kIdx_get nd (p := y.2) (by rw [hy, ← e])
      have hn : y.1 = k → h = none := fun e => by
        rcases h2 i (here e) with z | z
        · exact z.2
        · exact absurd List.mem_cons_self (h3 i z)
      refine wpAny_bind (wpAny_mono (hf i y h hy hh hn) (fun r t hr => ?_) fun _ _ e => e)
      obtain ⟨rfl, hr⟩ := hr
      by_cases e : y.1 = k
      · rw [if_pos e] at hr
        rcases hr with rfl | rfl
        · exact wpAny_pure (q _ (.inr (by rw [here e])))
        · refine ih _ nl2.2 (fun j hj => hm j (List.mem_cons_of_mem _ hj)) (.inr (here e).symm) (fun j hj => .inr ?_) fun j hj => ?_
          · rw [here e] at hj
            exact hj
          · cases hj
            exact nl2.1
      · rw [if_neg e] at hr
        subst hr
        refine ih _ nl2.2 (fun j hj => hm j (List.mem_cons_of_mem _ hj)) h1 (fun j hj => ?_) fun j hj z => h3 j hj (List.mem_cons_of_mem _ z)
        rcases h2 j hj with z | z
        · rcases List.mem_cons.mp z.1 with z1 | z1
          · subst z1
            obtain ⟨p, hp⟩ := kIdx_some hj
            rw [hy] at hp
            cases hp
            exact absurd rfl e
          · exact .inl ⟨z1, z.2⟩
        · exact .inr z
  refine key _ none ask_nodup (fun i hi => ask_mem hi) (.inl rfl) (fun i hi => .inl ⟨ask_hit hi, rfl⟩) (fun i hi => nomatch hi)
theorem scan1 {f : Nat → Option (Option Nat) × Unit → Sem (ForInStep (Option (Option Nat) × Unit))} {Q : Option (Option Nat) × Unit → Shared → Prop} (nd : (xs.map (·.1)).Nodup)
    (hf : ∀ i y, xs[i]? = some y → y.1.hash w = k.hash w → wpAny (model prog w) A (f i (none, ())) (fun r t => t = s ∧ if y.1 = k then r = .done (some (some i), ()) else r = .yield (none, ())) E s)
    (q : Q ((kIdx xs k).map some, ()) s) : wpAny (model prog w) A (forIn ((List.range xs.length).filter (askP xs w k)) (none, ()) f) Q E s := by
  have key : ∀ (l : List Nat), (∀ i ∈ l, ∃ y, xs[i]? = some y ∧ y.1.hash w = k.hash w) → (∀ i, kIdx xs k = some i → i ∈ l) →
      wpAny (model prog w) A (forIn l ((none : Option (Option Nat)), ()) f) Q E s := by
    intro l
    induction l with
    | nil =>
      intro _ h2
      rw [List.forIn_nil]
      cases e : kIdx xs k with
      | none =>
        rw [e] at q
        exact wpAny_pure q
      | some i => exact absurd (h2 i e) (by simp)
    | cons i l ih =>
      intro hm h2
      rw [List.forIn_cons]
      obtain ⟨y, hy, hh⟩ := hm i List.mem_cons_self
      refine wpAny_bind (wpAny_mono (hf i y hy hh) (fun r t hr => ?_) fun _ _ e => e)
      obtain ⟨rfl, hr⟩ := hr
      by_cases e : y.1 = k
      · rw [if_pos e] at hr
        subst hr
        rw [kIdx_get nd (p := y.2) (by rw [hy, ← e])] at q
        exact wpAny_pure q
      · rw [if_neg e] at hr
        subst hr
        refine ih (fun j hj => hm j (List.mem_cons_of_mem _ hj)) fun j hj => ?_
        rcases List.mem_cons.mp (h2 j hj) with z1 | z1
        · subst z1
          obtain ⟨p, hp⟩ := kIdx_some hj
          rw [hy] at hp
          cases hp
          exact absurd rfl e
        · exact z1
  exact key _ (fun i hi => ask_mem hi) (fun i hi => ask_hit hi)
theorem str_idx {z : Str} {t : Tok} (x : EntOk w s.heap xs es) (he : (es.all fun e => isExactStrKey e.key) = true) : es.findIdx? (fun e => e.key.isStr z) = kIdx xs (.text z) := by
  have h1 : es.findIdx? (fun e => e.key.isStr z) = es.toList.findIdx? (fun e => e.key.isStr z) := by
    cases es
    simp
  rw [h1, x.eq, List.findIdx?_map]
  unfold kIdx
  rw [← Array.all_toList, x.eq, List.all_map, List.all_eq_true] at he
  have hx := x.is
  clear h1 x
  induction xs with
  | nil => rfl
  | cons y ys ih =>
    have e1 := he y List.mem_cons_self
    have e2 := (hx y List.mem_cons_self).1
    have e3 : (entD w y).key.isStr z = decide (y.1 = .text z) := by
      obtain ⟨k', v, v'⟩ := y
      cases e2 <;> simp [entD, isExactStrKey, Value.isStr] at e1 ⊢
      rename_i a b
      exact decide_eq_decide.mpr ⟨fun e => e, fun e => e⟩
    simp only [List.findIdx?_cons, Function.comp_def, e3]
    cases decide (y.1 = .text z) with
    | true => rfl
    | false =>
      have := ih (fun v hv => he v (List.mem_cons_of_mem _ hv)) (fun v hv => hx v (List.mem_cons_of_mem _ hv))
      simp only [Function.comp_def] at this
      simp [this]
theorem iteW {α : Type} {c : Prop} [Decidable c] {a b : Sem α} {Q : α → Shared → Prop} (h1 : c → wpAny (model prog w) A a Q E s) (h2 : ¬ c → wpAny (model prog w) A b Q E s) : wpAny (model prog w) A (if c then a else b) Q E s := by
  by_cases h : c
  · rw [if_pos h]
    exact h1 h
  · rw [if_neg h]
    exact h2 h
theorem find_by {d : Addr} {o : Obj} {ep : Nat} {Q : Option Nat → Shared → Prop} (hu : A.units + 8 < cLine) (hk : NestedIs s.heap k u) (hd : k.depth ≤ 8) (ho : s.heap.get? d = some o) (hes : o.data = .dict es ep) (x : EntOk w s.heap xs es)
    (h : Q (kIdx xs k) s) : wpAny (model prog w) A (dictFind d u (k.hash w)) Q E s := by
  have hq : ∀ v ∈ (placesWithHash es.size (fun i => es[i]?.map (·.hash)) (k.hash w)).filterMap (fun i => es[i]?.map (·.key)), ∃ k', NestedIs s.heap k' v ∧ k'.depth ≤ 8 := by
    intro v hv
    rw [places_eq x] at hv
    obtain ⟨i, hi, hv⟩ := List.mem_filterMap.mp hv
    obtain ⟨y, hy, _⟩ := ask_mem hi
    rw [x.at i, hy] at hv
    obtain rfl : y.2.1 = v := by simpa [entD] using hv
    exact ⟨y.1, x.is y (List.mem_of_getElem? hy)⟩
  have turn : ∀ {i : Nat} {y : Ent} {R : Bool → Shared → Prop}, xs[i]? = some y → R (decide (y.1 = k)) s → wpAny (model prog w) A (eqBool (entD w y).key u) R E s := fun hy hr =>
    let z := x.is _ (List.mem_of_getElem? hy)
    eq_of hu z.1 z.2 hk hr
  have hany : ∀ a, u = .ref a → (es.any fun e => e.key == u && e.hash != k.hash w) = false := by
    intro a ea
    rw [← Array.any_toList, x.eq, List.any_map, List.any_eq_false]
    intro y hy z
    simp only [Function.comp_def, entD, Bool.and_eq_true, beq_iff_eq, bne_iff_ne, ne_eq] at z
    have := (x.is y hy).1
    rw [z.1] at this
    exact z.2 (by rw [NestedIs.inj _ _ _ this hk])
  unfold dictFind
  refine wpAny_holding ?_
  refine wpAny_bind (wpAny_dictEntries ho hes ?_)
  dsimp only
  rw [places_eq x] at hq ⊢
  have plain : wpAny (model prog w) A (dictWalkPlain d u (k.hash w) es ((List.range xs.length).filter (askP xs w k))) Q E s := by
    unfold dictWalkPlain
    refine wpAny_bind ?_
    refine scan1 x.nd (fun i y hy hh => ?_) ?_
    · rw [x.at i, hy]
      show wpAny _ _ (if ((entD w y).hash == k.hash w) = true then _ else _) _ _ _
      rw [if_pos (show ((entD w y).hash == k.hash w) = true by simp [entD, hh])]
      refine wpAny_bind (wpAny_dictEpoch ho hes (wpAny_bind (turn hy (wpAny_bind (wpAny_dictEpoch ho hes ?_)))))
      dsimp only
      rw [if_neg (by simp)]
      by_cases e : y.1 = k
      · rw [decide_eq_true e, if_pos rfl]
        refine wpAny_bind (wpAny_rule (wpAny_pure ⟨rfl, by first | rfl | rw [if_pos e]⟩))
      · rw [decide_eq_false e]
        rw [if_neg (by simp)]
        refine wpAny_bind (wpAny_rule (wpAny_pure ⟨rfl, by first | rfl | rw [if_neg e]⟩))
    · cases e : kIdx xs k with
      | none =>
        rw [e] at h
        exact wpAny_pure h
      | some i =>
        rw [e] at h
        exact wpAny_pure h
  have carried : ∀ {P : Sem (Option Nat)}, wpAny (model prog w) A P Q E s → wpAny (model prog w) A (if ((u :: ((List.range xs.length).filter (askP xs w k)).filterMap (fun i => es[i]?.map (·.key))).all carriedByValue) = true then dictWalkPlain d u (k.hash w) es ((List.range xs.length).filter (askP xs w k)) else P) Q E s := fun hP => by
    split
    · exact plain
    · exact hP
  cases hk with
  | none =>
    refine carried ?_
    try dsimp only
    refine iteW (fun _ => ?_) (fun _ => ?_)
    · refine wpAny_bind (wpAny_pure ?_)
      rw [if_neg (by simp)]
      refine wpAny_bind (scan x.nd (fun i y hit hy hh hn => ?_) fun b hb => ?_)
      · rw [x.at i, hy]
        show wpAny _ _ (if ((entD w y).hash == NestedKey.hash w _) = true then _ else _) _ _ _
        rw [if_pos (show ((entD w y).hash == NestedKey.hash w _) = true by simp [entD, hh])]
        refine wpAny_bind (wpAny_dictEpoch ho hes (wpAny_bind (turn hy (wpAny_bind (wpAny_dictEpoch ho hes ?_)))))
        rw [if_neg (by simp)]
        by_cases e : y.1 = .none
        · rw [decide_eq_true e, if_pos rfl, hn e, if_neg (by simp)]
          refine wpAny_bind (wpAny_rule (iteW (fun _ => ?_) (fun _ => ?_)))
          · exact wpAny_pure ⟨rfl, by first | exact .inl rfl | (rw [if_pos e]; exact .inl rfl)⟩
          · exact wpAny_pure ⟨rfl, by first | exact .inr rfl | (rw [if_pos e]; exact .inr rfl)⟩
        · rw [decide_eq_false e, if_neg (by simp)]
          refine wpAny_bind (wpAny_rule ?_)
          rw [if_neg (by simp)]
          exact wpAny_pure ⟨rfl, by first | rfl | rw [if_neg e]⟩
      · obtain ⟨b1, b2⟩ := b
        rcases hb with ⟨h1, h2⟩ | h1
        · dsimp only at h1 h2
          subst h1 h2
          exact wpAny_pure h
        · dsimp only at h1
          subst h1
          exact wpAny_pure h
    · refine wpAny_bind (tells_no .none hd hq ?_)
      rw [if_neg (by simp)]
      refine wpAny_bind (scan x.nd (fun i y hit hy hh hn => ?_) fun b hb => ?_)
      · rw [x.at i, hy]
        show wpAny _ _ (if ((entD w y).hash == NestedKey.hash w _) = true then _ else _) _ _ _
        rw [if_pos (show ((entD w y).hash == NestedKey.hash w _) = true by simp [entD, hh])]
        refine wpAny_bind (wpAny_dictEpoch ho hes (wpAny_bind (turn hy (wpAny_bind (wpAny_dictEpoch ho hes ?_)))))
        rw [if_neg (by simp)]
        by_cases e : y.1 = .none
        · rw [decide_eq_true e, if_pos rfl, hn e, if_neg (by simp)]
          refine wpAny_bind (wpAny_rule (iteW (fun _ => ?_) (fun _ => ?_)))
          · exact wpAny_pure ⟨rfl, by first | exact .inl rfl | (rw [if_pos e]; exact .inl rfl)⟩
          · exact wpAny_pure ⟨rfl, by first | exact .inr rfl | (rw [if_pos e]; exact .inr rfl)⟩
        · rw [decide_eq_false e, if_neg (by simp)]
          refine wpAny_bind (wpAny_rule ?_)
          rw [if_neg (by simp)]
          exact wpAny_pure ⟨rfl, by first | rfl | rw [if_neg e]⟩
      · obtain ⟨b1, b2⟩ := b
        rcases hb with ⟨h1, h2⟩ | h1
        · dsimp only at h1 h2
          subst h1 h2
          exact wpAny_pure h
        · dsimp only at h1
          subst h1
          exact wpAny_pure h
  | @bool bb ii e0 =>
    refine carried ?_
    try dsimp only
    refine iteW (fun _ => ?_) (fun _ => ?_)
    · refine wpAny_bind (wpAny_pure ?_)
      rw [if_neg (by simp)]
      refine wpAny_bind (scan x.nd (fun i y hit hy hh hn => ?_) fun b hb => ?_)
      · rw [x.at i, hy]
        show wpAny _ _ (if ((entD w y).hash == NestedKey.hash w _) = true then _ else _) _ _ _
        rw [if_pos (show ((entD w y).hash == NestedKey.hash w _) = true by simp [entD, hh])]
        refine wpAny_bind (wpAny_dictEpoch ho hes (wpAny_bind (turn hy (wpAny_bind (wpAny_dictEpoch ho hes ?_)))))
        rw [if_neg (by simp)]
        by_cases e : y.1 = .num ii
        · rw [decide_eq_true e, if_pos rfl, hn e, if_neg (by simp)]
          refine wpAny_bind (wpAny_rule (iteW (fun _ => ?_) (fun _ => ?_)))
          · exact wpAny_pure ⟨rfl, by first | exact .inl rfl | (rw [if_pos e]; exact .inl rfl)⟩
          · exact wpAny_pure ⟨rfl, by first | exact .inr rfl | (rw [if_pos e]; exact .inr rfl)⟩
        · rw [decide_eq_false e, if_neg (by simp)]
          refine wpAny_bind (wpAny_rule ?_)
          rw [if_neg (by simp)]
          exact wpAny_pure ⟨rfl, by first | rfl | rw [if_neg e]⟩
      · obtain ⟨b1, b2⟩ := b
        rcases hb with ⟨h1, h2⟩ | h1
        · dsimp only at h1 h2
          subst h1 h2
          exact wpAny_pure h
        · dsimp only at h1
          subst h1
          exact wpAny_pure h
    · refine wpAny_bind (tells_no (.bool e0) hd hq ?_)
      rw [if_neg (by simp)]
      refine wpAny_bind (scan x.nd (fun i y hit hy hh hn => ?_) fun b hb => ?_)
      · rw [x.at i, hy]
        show wpAny _ _ (if ((entD w y).hash == NestedKey.hash w _) = true then _ else _) _ _ _
        rw [if_pos (show ((entD w y).hash == NestedKey.hash w _) = true by simp [entD, hh])]
        refine wpAny_bind (wpAny_dictEpoch ho hes (wpAny_bind (turn hy (wpAny_bind (wpAny_dictEpoch ho hes ?_)))))
        rw [if_neg (by simp)]
        by_cases e : y.1 = .num ii
        · rw [decide_eq_true e, if_pos rfl, hn e, if_neg (by simp)]
          refine wpAny_bind (wpAny_rule (iteW (fun _ => ?_) (fun _ => ?_)))
          · exact wpAny_pure ⟨rfl, by first | exact .inl rfl | (rw [if_pos e]; exact .inl rfl)⟩
          · exact wpAny_pure ⟨rfl, by first | exact .inr rfl | (rw [if_pos e]; exact .inr rfl)⟩
        · rw [decide_eq_false e, if_neg (by simp)]
          refine wpAny_bind (wpAny_rule ?_)
          rw [if_neg (by simp)]
          exact wpAny_pure ⟨rfl, by first | rfl | rw [if_neg e]⟩
      · obtain ⟨b1, b2⟩ := b
        rcases hb with ⟨h1, h2⟩ | h1
        · dsimp only at h1 h2
          subst h1 h2
          exact wpAny_pure h
        · dsimp only at h1
          subst h1
          exact wpAny_pure h
  | int n t =>
    refine carried ?_
    try dsimp only
    refine iteW (fun _ => ?_) (fun _ => ?_)
    · refine wpAny_bind (wpAny_pure ?_)
      rw [if_neg (by simp)]
      refine wpAny_bind (scan x.nd (fun i y hit hy hh hn => ?_) fun b hb => ?_)
      · rw [x.at i, hy]
        show wpAny _ _ (if ((entD w y).hash == NestedKey.hash w _) = true then _ else _) _ _ _
        rw [if_pos (show ((entD w y).hash == NestedKey.hash w _) = true by simp [entD, hh])]
        refine wpAny_bind (wpAny_dictEpoch ho hes (wpAny_bind (turn hy (wpAny_bind (wpAny_dictEpoch ho hes ?_)))))
        rw [if_neg (by simp)]
        by_cases e : y.1 = .num n
        · rw [decide_eq_true e, if_pos rfl, hn e, if_neg (by simp)]
          refine wpAny_bind (wpAny_rule (iteW (fun _ => ?_) (fun _ => ?_)))
          · exact wpAny_pure ⟨rfl, by first | exact .inl rfl | (rw [if_pos e]; exact .inl rfl)⟩
          · exact wpAny_pure ⟨rfl, by first | exact .inr rfl | (rw [if_pos e]; exact .inr rfl)⟩
        · rw [decide_eq_false e, if_neg (by simp)]
          refine wpAny_bind (wpAny_rule ?_)
          rw [if_neg (by simp)]
          exact wpAny_pure ⟨rfl, by first | rfl | rw [if_neg e]⟩
      · obtain ⟨b1, b2⟩ := b
        rcases hb with ⟨h1, h2⟩ | h1
        · dsimp only at h1 h2
          subst h1 h2
          exact wpAny_pure h
        · dsimp only at h1
          subst h1
          exact wpAny_pure h
    · refine wpAny_bind (tells_no (.int n t) hd hq ?_)
      rw [if_neg (by simp)]
      refine wpAny_bind (scan x.nd (fun i y hit hy hh hn => ?_) fun b hb => ?_)
      · rw [x.at i, hy]
        show wpAny _ _ (if ((entD w y).hash == NestedKey.hash w _) = true then _ else _) _ _ _
        rw [if_pos (show ((entD w y).hash == NestedKey.hash w _) = true by simp [entD, hh])]
        refine wpAny_bind (wpAny_dictEpoch ho hes (wpAny_bind (turn hy (wpAny_bind (wpAny_dictEpoch ho hes ?_)))))
        rw [if_neg (by simp)]
        by_cases e : y.1 = .num n
        · rw [decide_eq_true e, if_pos rfl, hn e, if_neg (by simp)]
          refine wpAny_bind (wpAny_rule (iteW (fun _ => ?_) (fun _ => ?_)))
          · exact wpAny_pure ⟨rfl, by first | exact .inl rfl | (rw [if_pos e]; exact .inl rfl)⟩
          · exact wpAny_pure ⟨rfl, by first | exact .inr rfl | (rw [if_pos e]; exact .inr rfl)⟩
        · rw [decide_eq_false e, if_neg (by simp)]
          refine wpAny_bind (wpAny_rule ?_)
          rw [if_neg (by simp)]
          exact wpAny_pure ⟨rfl, by first | rfl | rw [if_neg e]⟩
      · obtain ⟨b1, b2⟩ := b
        rcases hb with ⟨h1, h2⟩ | h1
        · dsimp only at h1 h2
          subst h1 h2
          exact wpAny_pure h
        · dsimp only at h1
          subst h1
          exact wpAny_pure h
  | @tup aa oo vv nn ks e1 e2 e3 e4 =>
    refine carried ?_
    dsimp only
    rw [if_neg (by rw [hany _ rfl]; exact Bool.false_ne_true)]
    refine iteW (fun _ => ?_) (fun _ => ?_)
    · refine wpAny_bind (wpAny_pure ?_)
      rw [if_neg (by simp)]
      refine wpAny_bind (scan x.nd (fun i y hit hy hh hn => ?_) fun b hb => ?_)
      · rw [x.at i, hy]
        show wpAny _ _ (if ((entD w y).hash == NestedKey.hash w _) = true then _ else _) _ _ _
        rw [if_pos (show ((entD w y).hash == NestedKey.hash w _) = true by simp [entD, hh])]
        refine wpAny_bind (wpAny_dictEpoch ho hes (wpAny_bind (turn hy (wpAny_bind (wpAny_dictEpoch ho hes ?_)))))
        rw [if_neg (by simp)]
        by_cases e : y.1 = .tup ks
        · rw [decide_eq_true e, if_pos rfl, hn e, if_neg (by simp)]
          refine wpAny_bind (wpAny_rule (iteW (fun _ => ?_) (fun _ => ?_)))
          · exact wpAny_pure ⟨rfl, by first | exact .inl rfl | (rw [if_pos e]; exact .inl rfl)⟩
          · exact wpAny_pure ⟨rfl, by first | exact .inr rfl | (rw [if_pos e]; exact .inr rfl)⟩
        · rw [decide_eq_false e, if_neg (by simp)]
          refine wpAny_bind (wpAny_rule ?_)
          rw [if_neg (by simp)]
          exact wpAny_pure ⟨rfl, by first | rfl | rw [if_neg e]⟩
      · obtain ⟨b1, b2⟩ := b
        rcases hb with ⟨h1, h2⟩ | h1
        · dsimp only at h1 h2
          subst h1 h2
          exact wpAny_pure h
        · dsimp only at h1
          subst h1
          exact wpAny_pure h
    · refine wpAny_bind (tells_no (.tup e1 e2 e3 e4) hd hq ?_)
      rw [if_neg (by simp)]
      refine wpAny_bind (scan x.nd (fun i y hit hy hh hn => ?_) fun b hb => ?_)
      · rw [x.at i, hy]
        show wpAny _ _ (if ((entD w y).hash == NestedKey.hash w _) = true then _ else _) _ _ _
        rw [if_pos (show ((entD w y).hash == NestedKey.hash w _) = true by simp [entD, hh])]
        refine wpAny_bind (wpAny_dictEpoch ho hes (wpAny_bind (turn hy (wpAny_bind (wpAny_dictEpoch ho hes ?_)))))
        rw [if_neg (by simp)]
        by_cases e : y.1 = .tup ks
        · rw [decide_eq_true e, if_pos rfl, hn e, if_neg (by simp)]
          refine wpAny_bind (wpAny_rule (iteW (fun _ => ?_) (fun _ => ?_)))
          · exact wpAny_pure ⟨rfl, by first | exact .inl rfl | (rw [if_pos e]; exact .inl rfl)⟩
          · exact wpAny_pure ⟨rfl, by first | exact .inr rfl | (rw [if_pos e]; exact .inr rfl)⟩
        · rw [decide_eq_false e, if_neg (by simp)]
          refine wpAny_bind (wpAny_rule ?_)
          rw [if_neg (by simp)]
          exact wpAny_pure ⟨rfl, by first | rfl | rw [if_neg e]⟩
      · obtain ⟨b1, b2⟩ := b
        rcases hb with ⟨h1, h2⟩ | h1
        · dsimp only at h1 h2
          subst h1 h2
          exact wpAny_pure h
        · dsimp only at h1
          subst h1
          exact wpAny_pure h
  | text z t =>
    dsimp only
    by_cases he : (es.all fun e => isExactStrKey e.key) = true
    · rw [if_pos he]
      unfold foundByValue
      rw [str_idx (t := t) x he]
      cases e : kIdx xs (.text z) with
      | none =>
        rw [e] at h
        exact wpAny_pure h
      | some i =>
        rw [e] at h
        obtain ⟨p, hp⟩ := kIdx_some e
        have hei : es[i]? = some (entD w (.text z, p)) := by rw [x.at i, hp]; rfl
        dsimp only
        rw [hei]
        dsimp only
        refine wpAny_bind (wpAny_dictEpoch ho hes (wpAny_bind (turn hp (wpAny_bind (wpAny_dictEpoch ho hes ?_)))))
        rw [if_neg (by simp), decide_eq_true rfl, if_pos rfl]
        exact wpAny_bind (wpAny_rule (wpAny_pure h))
    rw [if_neg he]
    refine carried ?_
    try dsimp only
    refine iteW (fun _ => ?_) (fun _ => ?_)
    · refine wpAny_bind (wpAny_pure ?_)
      rw [if_neg (by simp)]
      refine wpAny_bind (scan x.nd (fun i y hit hy hh hn => ?_) fun b hb => ?_)
      · rw [x.at i, hy]
        show wpAny _ _ (if ((entD w y).hash == NestedKey.hash w _) = true then _ else _) _ _ _
        rw [if_pos (show ((entD w y).hash == NestedKey.hash w _) = true by simp [entD, hh])]
        refine wpAny_bind (wpAny_dictEpoch ho hes (wpAny_bind (turn hy (wpAny_bind (wpAny_dictEpoch ho hes ?_)))))
        rw [if_neg (by simp)]
        by_cases e : y.1 = .text z
        · rw [decide_eq_true e, if_pos rfl, hn e, if_neg (by simp)]
          refine wpAny_bind (wpAny_rule (iteW (fun _ => ?_) (fun _ => ?_)))
          · exact wpAny_pure ⟨rfl, by first | exact .inl rfl | (rw [if_pos e]; exact .inl rfl)⟩
          · exact wpAny_pure ⟨rfl, by first | exact .inr rfl | (rw [if_pos e]; exact .inr rfl)⟩
        · rw [decide_eq_false e, if_neg (by simp)]
          refine wpAny_bind (wpAny_rule ?_)
          rw [if_neg (by simp)]
          exact wpAny_pure ⟨rfl, by first | rfl | rw [if_neg e]⟩
      · obtain ⟨b1, b2⟩ := b
        rcases hb with ⟨h1, h2⟩ | h1
        · dsimp only at h1 h2
          subst h1 h2
          exact wpAny_pure h
        · dsimp only at h1
          subst h1
          exact wpAny_pure h
    · refine wpAny_bind (tells_no (.text z t) hd hq ?_)
      rw [if_neg (by simp)]
      refine wpAny_bind (scan x.nd (fun i y hit hy hh hn => ?_) fun b hb => ?_)
      · rw [x.at i, hy]
        show wpAny _ _ (if ((entD w y).hash == NestedKey.hash w _) = true then _ else _) _ _ _
        rw [if_pos (show ((entD w y).hash == NestedKey.hash w _) = true by simp [entD, hh])]
        refine wpAny_bind (wpAny_dictEpoch ho hes (wpAny_bind (turn hy (wpAny_bind (wpAny_dictEpoch ho hes ?_)))))
        rw [if_neg (by simp)]
        by_cases e : y.1 = .text z
        · rw [decide_eq_true e, if_pos rfl, hn e, if_neg (by simp)]
          refine wpAny_bind (wpAny_rule (iteW (fun _ => ?_) (fun _ => ?_)))
          · exact wpAny_pure ⟨rfl, by first | exact .inl rfl | (rw [if_pos e]; exact .inl rfl)⟩
          · exact wpAny_pure ⟨rfl, by first | exact .inr rfl | (rw [if_pos e]; exact .inr rfl)⟩
        · rw [decide_eq_false e, if_neg (by simp)]
          refine wpAny_bind (wpAny_rule ?_)
          rw [if_neg (by simp)]
          exact wpAny_pure ⟨rfl, by first | rfl | rw [if_neg e]⟩
      · obtain ⟨b1, b2⟩ := b
        rcases hb with ⟨h1, h2⟩ | h1
        · dsimp only at h1 h2
          subst h1 h2
          exact wpAny_pure h
        · dsimp only at h1
          subst h1
          exact wpAny_pure h
end
end Os
end
section
set_option linter.all false
set_option maxRecDepth 100000
set_option maxHeartbeats 4000000
/-! OyB: dicts whose keys are keys of any kind: look up, store, ask, make. -/
namespace Os
open PySem PySem.Spec PyProof.Rows

/-- at d stands a dict with these entries -/
def DE (w : World) (h : Heap) (d : Addr) (xs : List Ent) : Prop := ∃ o es ep, h.get? d = some o ∧ o.ExactDict ∧ o.data = .dict es ep ∧ EntOk w h xs es
def eAt (xs : List Ent) (k : NestedKey) : Option Value := (xs.find? fun x => decide (x.1 = k)).map (·.2.2)
def ePut (xs : List Ent) (k : NestedKey) (u v : Value) : List Ent := match kIdx xs k with
  | some i => xs.modify i fun x => (x.1, x.2.1, v)
  | none => xs ++ [(k, u, v)]
theorem map_mod {α β : Type} {g : α → β} {f : α → α} {h : β → β} (e : ∀ x, g (f x) = h (g x)) : ∀ (l : List α) (i : Nat), (l.modify i f).map g = (l.map g).modify i h
  | [], i => by simp
  | x :: l, 0 => by simp [e]
  | x :: l, i + 1 => by simp [map_mod e l i]
theorem modify_id {α : Type} : ∀ (l : List α) (i : Nat), l.modify i id = l
  | [], i => by simp
  | x :: l, 0 => by simp
  | x :: l, i + 1 => by simp [modify_id l i]
theorem eAt_idx {xs : List Ent} {k : NestedKey} : eAt xs k = (kIdx xs k).bind fun i => xs[i]?.map (·.2.2) := by
  unfold eAt kIdx
  induction xs with
  | nil => rfl
  | cons x r ih =>
    simp only [List.find?_cons, List.findIdx?_cons]
    cases decide (x.1 = k) with
    | true => rfl
    | false =>
      dsimp only
      rw [ih]
      cases List.findIdx? (fun x => decide (x.1 = k)) r <;> rfl
theorem ePut_length (xs : List Ent) (k : NestedKey) (u v : Value) : (ePut xs k u v).length ≤ xs.length + 1 := by
  unfold ePut
  split
  · rw [List.length_modify]
    omega
  · rw [List.length_append, List.length_singleton]
    omega
section
variable {prog : Program} {w : World} {A : Around} {E : Value → Shared → Prop} {s : Shared} {xs : List Ent} {es : Array DictEntry} {k : NestedKey} {u v : Value} {d : Addr}
theorem EntOk.stay {h h' : Heap} (x : EntOk w h xs es) (hk : ∀ b o vs n, h.get? b = some o → o.data = .seq vs n → h'.get? b = some o) : EntOk w h' xs es :=
  ⟨x.eq, fun y hy => ⟨NestedIs.at hk _ _ (x.is y hy).1, (x.is y hy).2⟩, x.nd⟩
theorem DE.type {s : Shared} (x : DE w s.heap d xs) : s.TypeIs (.ref d) "dict" := let ⟨o, _, _, ho, hc, _⟩ := x; ⟨o, ho, hc.1⟩
theorem DE.lt {h : Heap} (x : DE w h d xs) : d < h.objs.size := let ⟨_, _, _, ho, _⟩ := x; Heap.lt_size ho
theorem DE.new (h : Heap) : DE w (h.push { cls := .type "dict", data := .dict #[] }) h.objs.size [] :=
  ⟨_, #[], 0, Heap.get?_push_size _ rfl, ⟨rfl, rfl, rfl⟩, rfl, rfl, fun _ hx => (nomatch hx), List.nodup_nil⟩
theorem DE.stay {h h' : Heap} (x : DE w h d xs) (hd : ∀ o, h.get? d = some o → h'.get? d = some o) (hk : ∀ b o vs n, h.get? b = some o → o.data = .seq vs n → h'.get? b = some o) : DE w h' d xs :=
  let ⟨o, es, ep, ho, hc, he, hx⟩ := x; ⟨o, es, ep, hd o ho, hc, he, hx.stay hk⟩
theorem d_get {Q : Option Value → Shared → Prop} (hu : A.units + 8 < cLine) (hk : NestedIs s.heap k u) (hd : k.depth ≤ 8) (x : DE w s.heap d xs) (h : ∀ t, Q (eAt xs k) { s with toks := t }) : wpAny (model prog w) A (dictGet d u) Q E s := by
  obtain ⟨o, es, ep, ho, hc, he, hx⟩ := x
  unfold dictGet
  refine wpAny_holding (wpAny_bind (pyHash_key k u A s _ hk (by omega) (wpAny_bind (find_by (s := { s with toks := s.toks + k.draws }) hu hk hd ho he hx ?_))))
  have h' := h (s.toks + k.draws)
  rw [eAt_idx] at h'
  cases e : kIdx xs k with
  | none =>
    rw [e] at h'
    exact wpAny_pure h'
  | some i =>
    rw [e] at h'
    refine wpAny_bind (wpAny_dictEntries (s := { s with toks := s.toks + k.draws }) ho he ?_)
    refine wpAny_pure ?_
    obtain ⟨p, hp⟩ := kIdx_some e
    have e2 : es[i]? = some (entD w (k, p)) := by rw [hx.at i, hp]; rfl
    have h2 : Q (some p.2) { s with toks := s.toks + k.draws } := by
      rw [Option.bind_some, hp] at h'
      exact h'
    show Q (es[i]?.map _) _
    rw [e2]
    exact h2
theorem kIdx_mem {xs : List Ent} {k : NestedKey} (h : kIdx xs k = none) : k ∉ xs.map (·.1) := by
  intro z
  obtain ⟨y, hy, e⟩ := List.mem_map.mp z
  obtain ⟨i, hi⟩ := List.mem_iff_getElem?.mp hy
  exact kIdx_none h (p := y.2) (by rw [hi, ← e])
theorem keys_modify {f : Ent → Ent} (hf : ∀ x, (f x).1 = x.1) (xs : List Ent) (i : Nat) : (xs.modify i f).map (·.1) = xs.map (·.1) := by
  rw [map_mod (h := id) (g := fun x : Ent => x.1) hf, modify_id]
theorem d_set {Q : Unit → Shared → Prop} (hu : A.units + 8 < cLine) (hk : NestedIs s.heap k u) (hd : k.depth ≤ 8) (x : DE w s.heap d xs) (hz : xs.length ≤ sizeLine)
    (h : ∀ h' t, DE w h' d (ePut xs k u v) → Heap.SameBut d s.heap h' → Q () { s with heap := h', toks := t }) : wpAny (model prog w) A (dictSet d u v) Q E s := by
  obtain ⟨o, es, ep, ho, hc, he, hx⟩ := x
  have stays : ∀ f, ∀ b o' vs n, s.heap.get? b = some o' → o'.data = .seq vs n → (s.heap.update d f).get? b = some o' := fun f b o' vs n e1 e2 => by
    refine ((Heap.SameBut.update ..).2 b fun e => ?_).trans e1
    subst e
    rw [ho] at e1
    cases e1
    rw [he] at e2
    cases e2
  unfold dictSet
  refine wpAny_holding (wpAny_bind (pyHash_key k u A s _ hk (by omega) ?_))
  unfold dictSetHashed
  refine wpAny_holding (wpAny_bind (find_by (s := { s with toks := s.toks + k.draws }) hu hk hd ho he hx ?_))
  cases e : kIdx xs k with
  | none =>
    have e' : ePut xs k u v = xs ++ [(k, u, v)] := by
      unfold ePut
      rw [e]
    rw [e'] at h
    refine wpAny_bind (wpAny_rule (wpAny_updateDictKeys (hz := by rw [hx.size]; exact hz) (s := { s with toks := s.toks + k.draws }) ho he (h _ _ ⟨_, _, ep + 1, Heap.get?_update_self _ ho (Obj.isFreed_of_dict (Obj.data_mapDictKeys he _)), hc.mapDictKeys _, Obj.data_mapDictKeys he _, ?_, ?_, ?_⟩ (Heap.SameBut.update ..))))
    · simp [hx.eq, entD]
    · intro y hy
      rcases List.mem_append.mp hy with z | z
      · exact ⟨NestedIs.at (stays _) _ _ (hx.is y z).1, (hx.is y z).2⟩
      · rw [List.mem_singleton.mp z]
        exact ⟨NestedIs.at (stays _) _ _ hk, hd⟩
    · rw [List.map_append, List.nodup_append]
      refine ⟨hx.nd, by simp, fun a ha b hb => ?_⟩
      rw [List.map_singleton, List.mem_singleton] at hb
      rw [hb]
      intro z
      rw [z] at ha
      exact kIdx_mem e ha
  | some i =>
    have e' : ePut xs k u v = xs.modify i fun x => (x.1, x.2.1, v) := by
      unfold ePut
      rw [e]
    rw [e'] at h
    refine wpAny_bind (wpAny_rule (wpAny_bind (wpAny_updateDict (s := { s with toks := s.toks + k.draws }) ho he (wpAny_point (h _ _ ⟨_, _, ep, Heap.get?_update_self _ ho (Obj.isFreed_of_dict (Obj.data_mapDict he _)), hc.mapDict _, Obj.data_mapDict he _, ?_, ?_, ?_⟩ (Heap.SameBut.update ..))))))
    · rw [map_mod (g := entD w) (h := fun e : DictEntry => { e with val := v }) (fun x => rfl), ← hx.eq]
      simp
    · intro y hy
      obtain ⟨j, hj⟩ := List.mem_iff_getElem?.mp hy
      rw [List.getElem?_modify] at hj
      obtain ⟨z, hz1, hz2⟩ := Option.map_eq_some_iff.mp hj
      have hm := hx.is z (List.mem_of_getElem? hz1)
      split at hz2
      · subst hz2
        exact ⟨NestedIs.at (stays _) _ _ hm.1, hm.2⟩
      · subst hz2
        exact ⟨NestedIs.at (stays _) _ _ hm.1, hm.2⟩
    · have := keys_modify (f := fun x : Ent => (x.1, x.2.1, v)) (fun _ => rfl) xs i
      rw [this]
      exact hx.nd
/-! the operations -/
theorem d_asks {Q : Value → Shared → Prop} (hu : A.units + 9 < cLine) (hk : NestedIs s.heap k u) (hd : k.depth ≤ 8) (hs : (d == sysModules) = false) (x : DE w s.heap d xs) (f : Bool → Value)
    (h : ∀ t, Q (f (eAt xs k).isSome) { s with toks := t }) : wpAny (model prog w) A (do let b ← contains (.ref d) u; pure (f b)) Q E s := by
  refine wpAny_bind ?_
  unfold contains
  first | refine wpAny_holding ?_ | skip
  refine wpAny_bind (wpAny_specialOf x.type slot_dict_contains.lookup ?_)
  refine iteW (fun z => absurd z (by rw [beq_builtin_none]; exact Bool.false_ne_true)) fun _ => ?_
  refine wpAny_bind (wpAny_callSpecialUnlessNone?_slot (name := Str.ofString "__contains__") x.type slot_dict_contains (wpAny_call_entry slot_dict_contains x.type entry_dict_contains ?_ (args_dict_contains _ _)))
  show wpAny _ A.in1 (do let r ← dictGet d u; _) _ _ _
  refine wpAny_bind (d_get (by show A.units + 1 + 8 < cLine; omega) hk hd x fun t => ?_)
  have h' := h t
  cases e : eAt xs k with
  | some p =>
    rw [e] at h'
    exact wpAny_pure ⟨Value.bool true, rfl, wpAny_truthy_bool (wpAny_pure h')⟩
  | none =>
    rw [e] at h'
    show wpAny _ A.in1 (do let r ← Builtin.Dict.pendingKey? d u; _) _ _ _
    exact wpAny_bind (wpAny_pendingKey_other hs (wpAny_pure ⟨Value.bool false, rfl, wpAny_truthy_bool (wpAny_pure h')⟩))
theorem d_in {Q : Value → Shared → Prop} (hu : A.units + 9 < cLine) (hk : NestedIs s.heap k u) (hd : k.depth ≤ 8) (hs : (d == sysModules) = false) (x : DE w s.heap d xs) (h : ∀ t, Q (.bool (eAt xs k).isSome) { s with toks := t }) : wpAny (model prog w) A (compareOp .In u (.ref d)) Q E s :=
  d_asks hu hk hd hs x (fun b => .bool b) h
theorem d_notin {Q : Value → Shared → Prop} (hu : A.units + 9 < cLine) (hk : NestedIs s.heap k u) (hd : k.depth ≤ 8) (hs : (d == sysModules) = false) (x : DE w s.heap d xs) (h : ∀ t, Q (.bool (!(eAt xs k).isSome)) { s with toks := t }) : wpAny (model prog w) A (compareOp .NotIn u (.ref d)) Q E s :=
  d_asks hu hk hd hs x (fun b => .bool (!b)) h
theorem d_item {Q : Value → Shared → Prop} (hu : A.units + 9 < cLine) (hk : NestedIs s.heap k u) (hd : k.depth ≤ 8) (x : DE w s.heap d xs) (hv : eAt xs k = some v) (h : ∀ t, Q v { s with toks := t }) : wpAny (model prog w) A (getItem (.ref d) u) Q E s := by
  unfold getItem
  first | refine wpAny_holding ?_ | skip
  refine wpAny_bind (wpAny_sequenceKey x.type (by decide) (wpAny_bind (wpAny_callSpecial?_slot (name := Str.ofString "__getitem__") x.type slot_dict_getitem (wpAny_call_entry slot_dict_getitem x.type entry_dict_getitem ?_ (args_dict_getitem _ _)))))
  show wpAny _ A.in1 (do let r ← dictGet d u; _) _ _ _
  refine wpAny_bind (d_get (by show A.units + 1 + 8 < cLine; omega) hk hd x fun t => ?_)
  rw [hv]
  exact wpAny_pure ⟨v, rfl, wpAny_pure (h t)⟩
theorem d_store {Q : Unit → Shared → Prop} (hu : A.units + 9 < cLine) (hk : NestedIs s.heap k u) (hd : k.depth ≤ 8) (x : DE w s.heap d xs) (hz : xs.length ≤ sizeLine) (h : ∀ h' t, DE w h' d (ePut xs k u v) → Heap.SameBut d s.heap h' → Q () { s with heap := h', toks := t }) :
    wpAny (model prog w) A (setItem (.ref d) u v) Q E s := by
  unfold setItem
  first | refine wpAny_holding ?_ | skip
  refine wpAny_bind (wpAny_sequenceKey x.type (by decide) (wpAny_bind (wpAny_callSpecial?_slot (name := Str.ofString "__setitem__") x.type slot_dict_setitem (wpAny_call_entry slot_dict_setitem x.type entry_dict_setitem ?_ (args_dict_setitem _ _ _)))))
  show wpAny _ A.in1 (do let r ← Builtin.Dict.notOrdered "__setitem__" ⟨[.ref d, u, v], []⟩; _) _ _ _
  refine wpAny_bind (wpAny_notOrdered_dict x.type ?_)
  show wpAny _ A.in1 (do let r ← dictSet d u v; _) _ _ _
  exact wpAny_bind (d_set (by show A.units + 1 + 8 < cLine; omega) hk hd x hz fun h' t x' sb => wpAny_pure ⟨Value.none, rfl, wpAny_pure (h h' t x' sb)⟩)
theorem meets_get1 (hs : (d == sysModules) = false) : MeetsIn prog w (Builtin.«dict.get» ⟨[.ref d, u], []⟩) (fun A R s => A.units + 9 < cLine ∧ ∃ k xs, NestedIs s.heap k u ∧ k.depth ≤ 8 ∧ DE w s.heap d xs ∧ ∀ t, R (.ok (.ret ((eAt xs k).getD .none))) { s with toks := t }) :=
  .of_wp fun A R s ⟨hu, k, xs, hk, hd, x, h⟩ => by
    show wpAny _ A.in1 (do let r ← dictGet d u; _) _ _ _
    refine wpAny_bind (d_get (by show A.units + 1 + 8 < cLine; omega) hk hd x fun t => ?_)
    have h' := h t
    cases e : eAt xs k with
    | some p =>
      rw [e] at h'
      exact wpAny_pure ⟨p, rfl, h'⟩
    | none =>
      rw [e] at h'
      show wpAny _ A.in1 (do let r ← Builtin.Dict.missed d u; _) _ _ _
      exact wpAny_bind (wpAny_missed_other hs (wpAny_pure ⟨Value.none, rfl, h'⟩))
theorem meets_get2 (hs : (d == sysModules) = false) : MeetsIn prog w (Builtin.«dict.get» ⟨[.ref d, u, v], []⟩) (fun A R s => A.units + 9 < cLine ∧ ∃ k xs, NestedIs s.heap k u ∧ k.depth ≤ 8 ∧ DE w s.heap d xs ∧ ∀ t, R (.ok (.ret ((eAt xs k).getD v))) { s with toks := t }) :=
  .of_wp fun A R s ⟨hu, k, xs, hk, hd, x, h⟩ => by
    show wpAny _ A.in1 (do let r ← dictGet d u; _) _ _ _
    refine wpAny_bind (d_get (by show A.units + 1 + 8 < cLine; omega) hk hd x fun t => ?_)
    have h' := h t
    cases e : eAt xs k with
    | some p =>
      rw [e] at h'
      exact wpAny_pure ⟨p, rfl, h'⟩
    | none =>
      rw [e] at h'
      show wpAny _ A.in1 (do let r ← Builtin.Dict.missed d u; _) _ _ _
      exact wpAny_bind (wpAny_missed_other hs (wpAny_pure ⟨v, rfl, h'⟩))
theorem d_get1 {Q : Value → Shared → Prop} (hu : A.units + 10 < cLine) (hk : NestedIs s.heap k u) (hd : k.depth ≤ 8) (hs : (d == sysModules) = false) (x : DE w s.heap d xs) (h : ∀ t, Q ((eAt xs k).getD .none) { s with toks := t }) : wpAny (model prog w) A (call (.builtin "dict.get") [.ref d, u]) Q E s :=
  call_meetsIn PySem.F.slot_dict_get x.type PySem.F.entry_dict_get (PySem.F.args_dict_get_2 _ _) (meets_get1 hs) ⟨by omega, k, xs, hk, hd, x, h⟩
theorem d_get2 {Q : Value → Shared → Prop} (hu : A.units + 10 < cLine) (hk : NestedIs s.heap k u) (hd : k.depth ≤ 8) (hs : (d == sysModules) = false) (x : DE w s.heap d xs) (h : ∀ t, Q ((eAt xs k).getD v) { s with toks := t }) : wpAny (model prog w) A (call (.builtin "dict.get") [.ref d, u, v]) Q E s :=
  call_meetsIn PySem.F.slot_dict_get x.type PySem.F.entry_dict_get (PySem.F.args_dict_get_3 _ _ _) (meets_get2 hs) ⟨by omega, k, xs, hk, hd, x, h⟩
/-! dict(xs) of pairs -/
def eAll (xs : List Ent) (ps : List Ent) : List Ent := ps.foldl (fun acc p => ePut acc p.1 p.2.1 p.2.2) xs
theorem eAll_succ {xs ps : List Ent} {i : Nat} {p : Ent} (h : ps[i]? = some p) : eAll xs (ps.take (i + 1)) = ePut (eAll xs (ps.take i)) p.1 p.2.1 p.2.2 := by
  unfold eAll
  rw [List.take_add_one, h]
  simp
theorem eAll_length (ps : List Ent) : ∀ xs : List Ent, (eAll xs ps).length ≤ xs.length + ps.length := by
  induction ps with
  | nil => intro xs; exact Nat.le_refl _
  | cons p ps ih =>
    intro xs
    have h1 := ih (ePut xs p.1 p.2.1 p.2.2)
    have h2 := ePut_length xs p.1 p.2.1 p.2.2
    show (eAll (ePut xs p.1 p.2.1 p.2.2) ps).length ≤ _
    simp only [List.length_cons]
    omega
theorem ePut_keys {P : NestedKey → Value → Prop} {xs : List Ent} (h1 : ∀ x ∈ xs, P x.1 x.2.1) (h2 : P k u) : ∀ x ∈ ePut xs k u v, P x.1 x.2.1 := by
  unfold ePut
  split
  · intro y hy
    obtain ⟨j, hj⟩ := List.mem_iff_getElem?.mp hy
    rw [List.getElem?_modify] at hj
    obtain ⟨z, hz1, hz2⟩ := Option.map_eq_some_iff.mp hj
    have hm := h1 z (List.mem_of_getElem? hz1)
    split at hz2
    · subst hz2
      exact hm
    · subst hz2
      exact hm
  · intro y hy
    rcases List.mem_append.mp hy with z | z
    · exact h1 y z
    · rw [List.mem_singleton.mp z]
      exact h2
theorem eAll_keys {P : NestedKey → Value → Prop} : ∀ {ps xs : List Ent}, (∀ x ∈ xs, P x.1 x.2.1) → (∀ x ∈ ps, P x.1 x.2.1) → ∀ x ∈ eAll xs ps, P x.1 x.2.1
  | [], _, h1, _ => h1
  | p :: ps, _, h1, h2 => eAll_keys (ps := ps) (ePut_keys h1 (h2 p List.mem_cons_self)) fun x hx => h2 x (List.mem_cons_of_mem _ hx)
theorem DE.stay' {h h' : Heap} (x : DE w h d xs) (hd : ∀ o, h.get? d = some o → h'.get? d = some o) (hk : ∀ x ∈ xs, NestedIs h' x.1 x.2.1) : DE w h' d xs :=
  let ⟨o, es, ep, ho, hc, he, hx⟩ := x; ⟨o, es, ep, hd o ho, hc, he, hx.eq, fun y hy => ⟨hk y hy, (hx.is y hy).2⟩, hx.nd⟩
theorem d_dict {T : String} {a : Addr} {fp : List Addr} {n : Nat} {Rel : Nat → Value → Value → Prop} {OK : Heap → Prop} {ps : List Ent} {Q : Value → Shared → Prop} (P : PySem.PairArg prog w T a fp [] n Rel OK) (hh : A.handled = none) (hu : A.units + 20 < cLine) (ok : OK s.heap)
    (hn : ps.length = n) (hz : n ≤ sizeLine) (hp : ∀ i key v, Rel i key v → ∃ k, ps[i]? = some (k, key, v)) (hps : ∀ x ∈ ps, NestedIs s.heap x.1 x.2.1 ∧ x.1.depth ≤ 8)
    (h : ∀ h' t, DE w h' s.heap.objs.size (eAll [] ps) → (∀ b o, s.heap.get? b = some o → h'.get? b = some o) → Q (.ref s.heap.objs.size) { s with heap := h', toks := t }) : wpAny (model prog w) A (call (.type "dict") [.ref a]) Q E s := by
  refine PySem.call_dict_arg P ok fun s₁ e1 hdf ok1 => ?_
  subst e1
  refine PySem.updateFrom_arg (A := A.in1) (Tab := fun i hp => DE w hp s.heap.objs.size (eAll [] (ps.take i)) ∧ ∀ b o, s.heap.get? b = some o → hp.get? b = some o) P .none hh ok1 hdf ⟨DE.new _, fun b o e => Heap.get?_push_of_some _ e⟩ (fun _ _ tb => tb.1.lt) ?_ ?_ ?_
  · intro i h1 h2 wr' hdw hw tb hk
    have k2 : ∀ b o, s.heap.get? b = some o → h2.get? b = some o := fun b o e => hk b o (fun m => by
      rcases hw b m with z | z
      · exact nomatch z
      · have := Heap.get?_push_of_some { cls := .type "dict", data := .dict #[] } e
        rw [show (s.heap.push { cls := .type "dict", data := .dict #[] }).get? b = none from z] at this
        cases this) (tb.2 b o e)
    exact ⟨tb.1.stay' (fun o e => hk _ o hdw e) (eAll_keys (P := fun k u => NestedIs h2 k u) (fun _ z => nomatch z) fun x hx => NestedIs.at (fun b o _ _ e _ => k2 b o e) _ _ (hps x (List.mem_of_mem_take hx)).1), k2⟩
  · intro i key v' s2 Q2 E2 hi hrel tb _ hQ
    obtain ⟨k', h1⟩ := hp i key v' hrel
    obtain ⟨h2, h3⟩ := hps _ (List.mem_of_getElem? h1)
    refine d_set (by show A.units + 1 + 1 + 8 < cLine; omega) (NestedIs.at (fun b o _ _ e _ => tb.2 b o e) _ _ h2) h3 tb.1 (by have := eAll_length (ps.take i) []; simp only [List.length_take, List.length_nil] at this; omega) fun h' t x' sb => ?_
    refine hQ h' t ⟨by rw [eAll_succ h1]; exact x', fun b o e => ?_⟩ sb
    exact sb.extBut b o (fun z => by rw [z] at e; exact Nat.lt_irrefl _ (Heap.lt_size e)) (tb.2 b o e)
  · intro h' t tb _
    rw [List.take_of_length_le (Nat.le_of_eq hn)] at tb
    exact ⟨rfl, h h' t tb.1 tb.2⟩
end
end Os
end
section
set_option linter.all false
set_option maxRecDepth 100000
set_option maxHeartbeats 4000000
/-! OyK: tuples that are alike up to the first place where they differ: sorted by them. -/
namespace PySem.W
open PySem PySem.Spec PySem.SeqAt PySem.Calls PyProof.Rows
def mixAll : List PyData → List PyData → Bool
  | x :: xs, y :: ys => alike x y && (!PyData.eqv x y || mixAll xs ys)
  | [], _ => true
  | _ :: _, [] => true
/-- alike up to the first place where they differ -/
def mix : PyData → PyData → Bool
  | .tuple xs, .tuple ys => mixAll xs ys
  | .none, y => alike .none y
  | .bool b, y => alike (.bool b) y
  | .int b, y => alike (.int b) y
  | .str b, y => alike (.str b) y
  | .list b, y => alike (.list b) y
  | .dict b, y => alike (.dict b) y
  | .tuple xs, y => alike (.tuple xs) y
theorem mixAll_of : ∀ {xs ys : List PyData}, alikeAll xs ys = true → mixAll xs ys = true
  | [], _, _ => by simp [mixAll]
  | _ :: _, [], _ => by simp [mixAll]
  | x :: xs, y :: ys, h => by
    obtain ⟨h1, h2⟩ := alike_all_cons h
    rw [mixAll, h1, mixAll_of h2]
    simp
theorem mix_of {x y : PyData} (h : alike x y = true) : mix x y = true := by
  cases x <;> cases y <;> first | exact h | (simp only [mix]; exact mixAll_of (by simpa [alike] using h)) | (simp [alike] at h)
mutual
theorem eqv_alike : ∀ (x : PyData), alike x x = true → PyData.eqv x x = true
  | .none, _ => rfl
  | .bool b, _ => by simp [PyData.eqv]
  | .int i, _ => by simp [PyData.eqv]
  | .str z, _ => by simp [PyData.eqv]
  | .list xs, h => by
    rw [PyData.eqv]
    exact eqvAll_alike xs (by simpa [alike] using h)
  | .tuple xs, h => by
    rw [PyData.eqv]
    exact eqvAll_alike xs (by simpa [alike] using h)
  | .dict _, h => by simp [alike] at h
theorem eqvAll_alike : ∀ (xs : List PyData), alikeAll xs xs = true → PyData.eqvAll xs xs = true
  | [], _ => rfl
  | x :: xs, h => by
    obtain ⟨h1, h2⟩ := alike_all_cons h
    rw [PyData.eqvAll, eqv_alike x h1, eqvAll_alike xs h2]
    rfl
end
theorem mixAll_unique {h : Heap} : ∀ (xs ys : List PyData) (vs : List Value) (as as' : List Addr), mixAll xs ys = true → ReadsAll h vs xs as → ReadsAll h vs ys as' → xs = ys
  | [], _, _, _, _, _, r, r' => by cases r; cases r'; rfl
  | x :: xs, [], _, _, _, _, r, r' => by cases r'; cases r
  | x :: xs, y :: ys, _, _, _, ha, r, r' => by
    rw [mixAll, Bool.and_eq_true] at ha
    cases r with
    | cons r1 r2 =>
      cases r' with
      | cons k1 k2 =>
        obtain rfl := alike_unique x y _ _ _ ha.1 r1 k1
        have he := eqv_alike x ha.1
        have h2 := ha.2
        rw [he] at h2
        rw [mixAll_unique xs ys _ _ _ (by simpa using h2) r2 k2]
theorem mix_unique {h : Heap} {d d' : PyData} {v : Value} {as as' : List Addr} (hm : mix d d' = true) (r : Reads h v d as) (r' : Reads h v d' as') : d = d' := by
  by_cases ht : (∃ xs, d = .tuple xs) ∧ ∃ ys, d' = .tuple ys
  · obtain ⟨⟨xs, rfl⟩, ys, rfl⟩ := ht
    cases r with
    | tuple h1 h2 h3 h4 =>
      cases r' with
      | tuple k1 k2 k3 k4 =>
        rw [h1] at k1; cases k1
        rw [h3] at k3; cases k3
        rw [mixAll_unique xs ys _ _ _ hm h4 k4]
  · have : alike d d' = true := by
      cases d <;> cases d' <;> first | exact hm | exact absurd ⟨⟨_, rfl⟩, _, rfl⟩ ht
    exact alike_unique _ _ _ _ _ this r r'
def AllMix (ds : List PyData) : Prop := ∀ d, d ∈ ds → ∀ d', d' ∈ ds → mix d d' = true
theorem AllAlike.mix {ds : List PyData} (h : AllAlike ds) : AllMix ds := fun d hd d' hd' => mix_of (h d hd d' hd')
theorem dataKind_mix {h : Heap} {ds : List PyData} (hal : AllMix ds) {v : Value} {d : PyData} {as : List Addr} (hd : d ∈ ds) (r : Reads h v d as) : (dataKind h ds).keyOf v = some (keyToks d) := by
  have q : ∃ d, d ∈ ds ∧ ∃ as, Reads h v d as := ⟨d, hd, as, r⟩
  have e : (dataKind h ds).keyOf v = some (keyToks q.choose) := by
    show (open Classical in if q : ∃ d, d ∈ ds ∧ ∃ as, Reads h v d as then some (keyToks q.choose) else none) = _
    rw [dif_pos q]
  obtain ⟨h1, as', h2⟩ := q.choose_spec
  rw [e, mix_unique (hal _ h1 _ hd) h2 r]
section
variable {prog : Program} {w : World} {A : Around} {s : Shared}
theorem katLex_mix {b fin : Bool} {Q : Bool → Shared → Prop} : ∀ (xs ys : List PyData) (i : Nat) (vs ws : List Value) (as bs : List Addr), ReadsAll s.heap vs xs as → ReadsAll s.heap ws ys bs → mixAll xs ys = true →
    A.units + min (PyData.depthAll xs) (PyData.depthAll ys) < cLine → (b = true → i = 0 → ∀ x r t, xs = x :: r → x ≠ .tuple t) → fin = decide (xs.length < ys.length) → Q (PyProof.Rows.lexLt itemOrd (keyToksAll xs) (keyToksAll ys)) s → KatLex prog w A b fin Q (vs.zip ws) i s
  | [], [], i, _, _, _, _, ra, rb, _, _, _, hf, hq => by
    cases ra
    cases rb
    have e : fin = false := by rw [hf]; rfl
    subst e
    rw [lex_irrefl] at hq
    exact kat_nil hq
  | [], y :: ys, i, _, _, _, _, ra, rb, _, _, _, hf, hq => by
    cases ra
    have e : fin = true := by rw [hf]; exact decide_eq_true (Nat.succ_pos _)
    subst e
    rw [toks_all_cons] at hq
    simp only [keyToksAll] at hq
    rw [lex_diff (O := itemOrd) (by simp)] at hq
    rw [List.zip_nil_left]
    exact kat_nil (by simpa [itemLt] using hq)
  | x :: xs, [], i, _, _, _, _, ra, rb, _, _, _, hf, hq => by
    cases rb
    have e : fin = false := by rw [hf]; exact decide_eq_false (Nat.not_lt_zero _)
    subst e
    rw [toks_all_cons] at hq
    simp only [keyToksAll] at hq
    rw [lex_diff (O := itemOrd) (by simp)] at hq
    rw [List.zip_nil_right]
    exact kat_nil (by simpa [itemLt] using hq)
  | x :: xs, y :: ys, i, _, _, _, _, ra, rb, h, hu, hb, hf, hq => by
    rw [mixAll, Bool.and_eq_true] at h
    obtain ⟨h1, h2⟩ := h
    have hf' : fin = decide (xs.length < ys.length) := by
      rw [hf]
      simp only [List.length_cons, Nat.add_lt_add_iff_right]
    cases ra with
    | cons r rs =>
      cases rb with
      | cons r' rs' =>
        rw [List.zip_cons_cons]
        refine kat_cons (eqAt_alike x y A s _ _ _ _ r r' h1 (room_head hu) prog w _ _ ?_)
        cases hx : PyData.eqv x y with
        | true =>
          rw [hx] at h2
          rw [dataLt_all_yes h1 hx] at hq
          exact kat_yes (katLex_mix xs ys (i + 1) _ _ _ _ rs rs' (by simpa using h2) (room_tail hu) (fun _ hi => absurd hi (Nat.succ_ne_zero i)) hf' hq)
        | false =>
          rw [dataLt_all_no h1 hx] at hq
          refine kat_no (oneLt_alike (fun hbi t => ?_) r r' h1 (ne_none_of h1 hx) (room_head hu) hq)
          rw [Bool.and_eq_true] at hbi
          exact hb hbi.1 (by simpa using hbi.2) x xs t rfl
/-- values that read as tuples, alike up to the first place where they differ, can be sorted -/
theorem SortsAt.mixed {vs : List Value} {ds : List PyData} (e : EachIs (fun v d => ∃ as, Reads s.heap v d as) vs ds) (hal : AllMix ds) (ht : ∀ d, d ∈ ds → ∃ x r, d = .tuple (x :: r)) (hu : ∀ d, d ∈ ds → A.units + d.depth < cLine) : SortsAt prog w A s (dataKind s.heap ds) vs := by
  have room : ∀ {d d' : PyData}, d ∈ ds → A.units + min d.depth d'.depth < cLine := fun {d d'} hd => Nat.lt_of_le_of_lt (Nat.add_le_add_left (Nat.min_le_left _ _) _) (hu d hd)
  refine ⟨fun v hv => ?_, ?_⟩
  · obtain ⟨d, hd, as, r⟩ := e.left v hv
    exact ⟨_, dataKind_mix hal hd r⟩
  · cases ds with
      | nil =>
        cases e
        exact ⟨general', fun E x y a b Q ha _ _ => (by
          obtain ⟨d, _, hd, _⟩ := dataKind_inv ha
          exact absurd hd (by simp)), fun h2 => absurd h2 (by simp)⟩
      | cons d₀ ds₀ =>
        obtain ⟨x₀, r₀, e₀⟩ := ht d₀ (List.mem_cons_self ..)
        have hfirst : ∀ x r, PyData.tuple (x :: r) ∈ d₀ :: ds₀ → alike x x₀ = true := by
          intro x r hm
          have q := hal _ hm d₀ (List.mem_cons_self ..)
          rw [e₀] at q
          have q' : mixAll (x :: r) (x₀ :: r₀) = true := q
          rw [mixAll, Bool.and_eq_true] at q'
          exact q'.1
        refine ⟨tuples' (dataType x₀ != Value.type "tuple"), ?_, fun h2 E Q hq => ?_⟩
        · intro E x y a b Q ha hb hq
          obtain ⟨d, as, hd, ra, rfl⟩ := dataKind_inv ha
          obtain ⟨d', as', hd', rb, rfl⟩ := dataKind_inv hb
          have hdd := hal d hd d' hd'
          have hroom := room (d' := d') hd
          obtain ⟨x1, r1, rfl⟩ := ht d hd
          obtain ⟨x2, r2, rfl⟩ := ht d' hd'
          have hq' : Q (dataLt (.tuple (x1 :: r1)) (.tuple (x2 :: r2))) s := hq
          rw [dataLt_tuple] at hq'
          cases ra with
          | @tuple l o xs n _ _ h1 h2 h3 h4 =>
            cases rb with
            | @tuple l' o' xs' n' _ _ k1 k2 k3 k4 =>
              have n1 : xs.size = (x1 :: r1).length := by simpa using SeqAt.ReadsAll.length _ _ _ h4
              have n2 : xs'.size = (x2 :: r2).length := by simpa using SeqAt.ReadsAll.length _ _ _ k4
              refine kat_lt h1 h3 k1 k3 (katLex_mix (x1 :: r1) (x2 :: r2) 0 _ _ _ _ h4 k4 hdd (by have q := SeqAt.room_in hroom; omega) (fun hb _ x r t ex => ?_) (by rw [n1, n2]) hq')
              obtain ⟨rfl, rfl⟩ := List.cons.inj ex
              have q := dataType_alike (hfirst _ _ hd)
              rw [← q] at hb
              exact dataType_tuple hb t
        · obtain ⟨fs, t1, t2, t3⟩ := each_katTups e ht
          refine kat_kind (T := dataType x₀) t1 (by omega) (fun f hf => ?_) (beq_self_eq_true _) hq
          obtain ⟨x, r, as, m1, m2⟩ := t3 f hf
          rw [← dataType_alike (hfirst x r m1)]
          exact looks_reads m2
end
/-- what may be sorted by -/
def Sorts (ds : List PyData) : Prop := (AllAlike ds ∧ Sortable ds) ∨ (AllMix ds ∧ ∀ d, d ∈ ds → ∃ x r, d = .tuple (x :: r))
theorem Sorts.mix {ds : List PyData} (h : Sorts ds) : AllMix ds := h.elim (fun h => h.1.mix) (fun h => h.1)
theorem SortsAt.any {prog : Program} {w : World} {A : Around} {s : Shared} {vs : List Value} {ds : List PyData} (e : EachIs (fun v d => ∃ as, Reads s.heap v d as) vs ds) (h : Sorts ds) (hu : ∀ d, d ∈ ds → A.units + d.depth < cLine) : SortsAt prog w A s (dataKind s.heap ds) vs :=
  h.elim (fun h => SortsAt.data e h.1 h.2 hu) (fun h => SortsAt.mixed e h.1 h.2 hu)
def KeyedM (rev : Bool) (kz : List PyData) (vs out : List Value) : Prop := ∃ h ks, AllMix kz ∧ out = sortVals (dataKind h kz) rev ks vs ∧ EachIs (fun v k => ∃ as, Reads h v k as) ks kz
theorem KeyedM.length {rev : Bool} {kz : List PyData} {vs out : List Value} (h : KeyedM rev kz vs out) (hl : kz.length = vs.length) : out.length = vs.length := by
  obtain ⟨hp, ks, _, rfl, hk⟩ := h
  exact sortVals_length rev (hk.length.trans hl)
theorem each_keysM {h : Heap} {ds : List PyData} (hal : AllMix ds) {vs : List Value} (e : EachIs (fun v d => ∃ as, Reads h v d as) vs ds) : EachIs (fun v d => (dataKind h ds).keyOf v = some (keyToks d)) vs ds :=
  (each_mem e).mono fun _ _ ⟨⟨_, r⟩, hd⟩ => dataKind_mix hal hd r
theorem keyedM_each {rev : Bool} {β : Type} {R : Value → β → Prop} {bs : List β} {vs out : List Value} (k : β → PyData) (h : KeyedM rev (bs.map k) vs out) (hR : EachIs R vs bs) : EachIs R out (bs.mergeSort (dataLe rev k)) := by
  obtain ⟨hp, ks, hal, rfl, hk⟩ := h
  exact sortVals_each (κ := dataKind hp (bs.map k)) (fun b => keyToks (k b)) hR (each_of_map k (each_keysM hal hk))
end PySem.W
namespace PySem.SeqAt
open PySem PySem.Spec
open MeetsSeq MeetsSeq2 MeetsSeq3 SeqRoads2
theorem tuple_lt_first (l b : Addr) (items items2 : Array Value) (n n2 : Nat) (dd dd2 : Option Addr) (sl sl2 : Array (Option Value)) (k : Bool) (g1 : 0 < items.size) (g2 : 0 < items2.size) :
    Meets (Builtin.«tuple.__lt__» ⟨[.ref l, .ref b], []⟩)
      (fun A R s => s.heap.get? l = some { cls := .type "tuple", dict := dd, data := .seq items n, slots := sl } ∧ s.heap.get? b = some { cls := .type "tuple", dict := dd2, data := .seq items2 n2, slots := sl2 } ∧
        EqAt A.in1 s items[0] items2[0] false ∧ RcLt A.in1 s items[0] items2[0] k ∧ R (.ok (.ret (.bool k))) s) :=
  .of_wp fun prog w A R s h => by
    obtain ⟨hp, g, d, tk, os⟩ := s; obtain ⟨hl, hb, he, hr, h⟩ := h
    have f2 := AutoSeq1.sub_tuple_tuple
    have hlt : 0 < (items.toList.zip items2.toList).length := by simp; omega
    wp_walk using PySem.AutoSeq1.wpAny_loadPart' hl, PySem.AutoSeq1.wpAny_loadPart' hb, wpAny_forIn_list _ (fun rest b s' => b.1 = none ∧ s' = ⟨hp, g, d, tk, os⟩ ∧ rest = items.toList.zip items2.toList) _
    case turn =>
      rintro ⟨y, x⟩ rest b s' ⟨hb', rfl, hz⟩
      have hz2 : (y, x) :: rest = (items.toList.zip items2.toList)[0] :: (items.toList.zip items2.toList).drop 1 := by
        rw [hz]
        conv => lhs; rw [← List.drop_zero (l := items.toList.zip items2.toList), List.drop_eq_getElem_cons hlt]
      injection hz2 with hyx hrest
      have hy : y = items[0] := by have := congrArg Prod.fst hyx; simpa using this
      have hx : x = items2[0] := by have := congrArg Prod.snd hyx; simpa using this
      subst hy hx
      refine wpAny_bind (he prog w _ _ ?_)
      have hr' : ∀ (E Q : Value → Shared → Prop), Q (.bool k) ⟨hp, g, d, tk, os⟩ → wpAny (model prog w) A.in1 (richCompare .Lt items[0] items2[0]) Q E ⟨hp, g, d, tk, os⟩ := fun E Q h => hr prog w E Q h
      simp only [Bool.not_false, if_true]
      generalize richCompare CmpOp.Lt items[0] items2[0] = c at hr' ⊢
      wp_walk
      refine hr' _ _ ?_
      wp_walk
      exact ⟨_, rfl, h⟩
    case fin =>
      rintro ⟨b1, b2⟩ s' ⟨hb', rfl, hz⟩
      rw [← hz] at hlt
      exact absurd hlt (Nat.lt_irrefl _)
    case h =>
      exact ⟨rfl, rfl, rfl⟩
theorem RcLt.first {A : Around} {s : Shared} {l b : Addr} {items items2 : Array Value} {k : Bool} (hl : s.heap.IsTuple l items) (hb : s.heap.IsTuple b items2) (hu : A.units < cLine) (g1 : 0 < items.size) (g2 : 0 < items2.size)
    (he : EqAt A.in1 s items[0] items2[0] false) (hr : RcLt A.in1 s items[0] items2[0] k) : RcLt A s (.ref l) (.ref b) k := fun prog w E Q h => by
  obtain ⟨⟨cls, dd, data, sl⟩, ho, hc, n, hd⟩ := id hl
  obtain ⟨⟨cls2, dd2, data2, sl2⟩, ho2, hc2, n2, hd2⟩ := id hb
  simp only at hc hd hc2 hd2
  subst hc hd hc2 hd2
  exact richCompare_meets_room (op := .Lt) ⟨_, ho, rfl⟩ ⟨_, ho2, rfl⟩ F.slot_tuple_lt F.entry_tuple_lt (F.args_tuple_lt_2 _ _) (tuple_lt_first l b items items2 n n2 dd dd2 sl sl2 k g1 g2)
    ⟨ho, ho2, he, hr, show Value.bool k ≠ Value.notImplemented ∧ Q (.bool k) s from ⟨(fun x => nomatch x), h⟩⟩ hu
/-- tuples whose first whole numbers differ -/
theorem lt_first {prog : Program} {w : World} {A : Around} {E : Value → Shared → Prop} {s : Shared} {a b : Value} {i j : Int} {xs ys : List PyData} {as bs : List Addr} {Q : Value → Shared → Prop} (ra : Reads s.heap a (.tuple (.int i :: xs)) as) (rb : Reads s.heap b (.tuple (.int j :: ys)) bs) (hij : i ≠ j) (hu : A.units + 1 < cLine)
    (hq : Q (.bool (decide (i < j))) s) : wpAny (model prog w) A (compareOp .Lt a b) Q E s := by
  cases ra with
  | @tuple l o vs n _ as₁ h1 h2 h3 h4 =>
    cases rb with
    | @tuple l' o' vs' n' _ bs₁ k1 k2 k3 k4 =>
      have n1 : vs.size = xs.length + 1 := by simpa using ReadsAll.length _ _ _ h4
      have n2 : vs'.size = ys.length + 1 := by simpa using ReadsAll.length _ _ _ k4
      have r0 : ∃ t, vs[0]'(by omega) = .int i t := by
        obtain ⟨v⟩ := vs
        cases h4 with
        | cons r1 r2 =>
          cases r1 with
          | int _ t => exact ⟨t, rfl⟩
      have r1 : ∃ t, vs'[0]'(by omega) = .int j t := by
        obtain ⟨v⟩ := vs'
        cases k4 with
        | cons r1 r2 =>
          cases r1 with
          | int _ t => exact ⟨t, rfl⟩
      obtain ⟨t, e0⟩ := r0
      obtain ⟨t', e1⟩ := r1
      refine RcLt.first (k := decide (i < j)) ⟨_, h1, h2, _, h3⟩ ⟨_, k1, k2, _, k3⟩ (by omega) (by omega) (by omega) ?_ ?_ prog w E Q hq
      · rw [e0, e1]
        have := EqAt.int_int (A := A.in1) (s := s) i t j t'
        rw [show (i == j) = false by simpa using hij] at this
        exact this
      · rw [e0, e1]
        have h := PySem.W.rcLt_alike (.int i) (.int j) A.in1 s (.int i t) (.int j t') [] [] (.int i t) (.int j t') rfl (fun z => nomatch z) (by show A.units + 1 + min 0 0 < cLine; simp; omega)
        rw [PySem.W.dataLt_int] at h
        exact h
end PySem.SeqAt
end
section
set_option linter.all false
set_option maxRecDepth 100000
set_option maxHeartbeats 4000000
/-! OsB: a small language, as data, and what it does: the evaluator. No Python and no heap here. -/
namespace Os
open PySem PySem.Spec PyProof.Rows L2

/-- the law's source of numbers -/
structure Src where
  cells : List Int
  left : Int
  mixed : Int
  turn : Int
abbrev S1 := Option Src
/-- what a slot holds, as an expression reads it -/
inductive SL where
  | un | d (x : D) | src
  deriving Inhabited
abbrev LS := List SL
/-- what a def does: its arguments, the source -/
abbrev FS := List SL → S1 → Option (D × S1)
/-- a def that may be called: its name, what it does, whether what it gives is always a new list -/
structure FE where
  name : Str
  ar : Nat
  sem : FS
  fresh : Bool
  /-- no lambda is made in it -/
  pure : Bool

inductive O2 where
  | add | sub | mul | fdiv | mod | pow
  deriving DecidableEq
inductive CO where
  | eq | ne | lt | le | gt | ge | isin | notin
  deriving DecidableEq
/-- built-ins of one argument -/
inductive B1 where
  | len | tuple | list | sorted | repr | int | abs | sum | all | any | dict | max1 | min1
  deriving DecidableEq
inductive B2 where
  | max | min
  deriving DecidableEq
/-- types that isinstance is asked for -/
inductive TY where
  | int | bool | str | tuple | list | dict
  deriving DecidableEq
/-- methods of one argument, of two -/
inductive M1 where
  | index | get | count | join
  deriving DecidableEq
inductive M2 where
  | get
  deriving DecidableEq
inductive MT where
  | nm (i : Nat)
  | two (a b : MT)
  | three (a b c : MT)
  | four (a b c d : MT)
  | sixL (a b c d e f : MT)

mutual
inductive ME where
  | nm (i : Nat)
  | k (d : D)
  | tup (es : MEs)
  | lst (es : MEs)
  | op (o : O2) (a b : ME)
  | neg (a : ME)
  /-- a in X, X a tuple of the module -/
  | inG (a : ME) (xs : List D)
  /-- a.upper() -/
  | up (a : ME)
  | cmp (o : CO) (a b : ME)
  | isN (a : ME)
  | notN (a : ME)
  | chn (o q : CO) (a b c : ME)
  | and_ (a b : ME)
  | or_ (a b : ME)
  | not_ (a : ME)
  | ite (c a b : ME)
  | idx (a i : ME)
  | slc (a : ME) (lo hi : MO)
  | revl (a : ME)
  | call (f : Nat) (as : MAs)
  | b1 (f : B1) (a : ME)
  | b2 (f : B2) (a b : ME)
  | isi (a : ME) (t : TY)
  | m1 (f : M1) (o a : ME)
  | m2 (f : M2) (o a b : ME)
  | join (o a : ME)
  | bad
  | isB (b : Bool) (a : ME)
  | dict0
  | sortK (f : Nat) (a : ME)
  | sortL (a : ME) (js : List Nat) (m : ME)
  /-- a + b of lists, a[lo:hi] of a list: new lists -/
  | catL (a b : ME)
  | sll (a : ME) (lo hi : MO)
  /-- sorted(set(a)) -/
  | sset (a : ME)
  | comp (elt : ME) (t : MT) (it : MI) (ifs : MEs) (own : List Nat)
inductive MO where
  | no
  | yes (e : ME)
inductive MEs where
  | nil
  | cons (e : ME) (r : MEs)
  | star (e : ME) (r : MEs)
inductive MAs where
  | nil
  | cons (e : ME) (r : MAs)
  | src (i : Nat) (r : MAs)
inductive MI where
  | seq (e : ME)
  | range1 (e : ME)
  | range2 (a b : ME)
  | enum (e : ME)
  | zip (a b : ME)
  | items (e : ME)
  | values (e : ME)
end

/-! ### operations on data -/
def dOp : O2 → D → D → Option D
  | .add, .int i, .int j => some (.int (i + j))
  | .add, .str x, .str y => if x.length + y.length ≤ sizeLine then some (.str (x ++ y)) else none
  | .add, .list xs, .list ys => if xs.length + ys.length ≤ sizeLine then some (.list (xs ++ ys)) else none
  | .add, .tuple xs, .tuple ys => if xs.length + ys.length ≤ sizeLine then some (.tuple (xs ++ ys)) else none
  | .sub, .int i, .int j => some (.int (i - j))
  | .mul, .int i, .int j => if (-(2 ^ 64) < i ∧ i < 2 ^ 64) ∨ (-(2 ^ 64) < j ∧ j < 2 ^ 64) ∨ (i.natAbs < 1606938044258990275541962092341162602522202993782792835301376 ∧ j.natAbs < 1606938044258990275541962092341162602522202993782792835301376) then some (.int (i * j)) else none
  | .mul, .list xs, .int n => if 0 ≤ n ∧ xs.length * n.toNat ≤ sizeLine ∧ n < 2 ^ 62 then some (.list (List.replicate n.toNat xs).flatten) else none
  | .mul, .tuple xs, .int n => if xs ≠ [] ∧ 0 ≤ n ∧ n ≤ 1000 ∧ xs.length ≤ 1000 then some (.tuple (List.replicate n.toNat xs).flatten) else none
  | .mul, .str z, .int n => if 0 < z.length ∧ z.length ≤ 1000 ∧ 2 ≤ n ∧ n ≤ 1000 then some (.str ⟨(List.replicate n.toNat z.cps).foldl (· ++ ·) #[]⟩) else none
  | .fdiv, .int i, .int j => if 0 < j ∧ j < 1606938044258990275541962092341162602522202993782792835301376 then some (.int (i / j)) else none
  | .mod, .int i, .int j => if 0 < j then some (.int (i % j)) else none
  | .pow, .int i, .int j => if 0 ≤ j ∧ j ≤ 1000000 ∧ i.natAbs < 2 ^ 64 then some (.int (i ^ j.toNat)) else none
  | _, _, _ => none

/-- a value's truth -/
def tru : D → Option Bool
  | .none => some false
  | .bool b => some b
  | .int i => some (i != 0)
  | .str x => if x.length ≤ sizeLine then some ((x.length : Int) != 0) else none
  | .list xs => some (!xs.isEmpty)
  | .tuple xs => some (!xs.isEmpty)
  | .dict _ => none

/-- the same keys one by one, the same whole numbers -/
def numsSame : List (D × D) → List (D × D) → Bool
  | [], [] => true
  | (k, .int n) :: r, (k', .int n') :: t => decide (n = n') && (keyD k).isSome && decide (keyD k = keyD k') && numsSame r t
  | _, _ => false
def dEq : D → D → Option Bool
  | .str x, .str y => some (decide (x = y))
  | .int i, .int j => some (decide (i = j))
  | .dict a, .dict b => if numsSame a b = true then some true else none
  | x, y => if SeqAt.shaped x = true ∧ SeqAt.shaped y = true then some (PyData.eqv x y) else none

def dLt : D → D → Option Bool
  | .int i, .int j => some (decide (i < j))
  | .str x, .str y => some (decide (x.cps.toList < y.cps.toList))
  | .tuple xs, .tuple ys => if PySem.W.alike (.tuple xs) (.tuple ys) = true ∧ PySem.W.alike (.tuple ys) (.tuple xs) = true ∧ (PyData.tuple xs).depth ≤ 60 ∧ (PyData.tuple ys).depth ≤ 60 then some (PySem.W.dataLt (.tuple xs) (.tuple ys)) else none
  | _, _ => none
/-- tuples whose first whole numbers differ -/
def firstD : D → D → Option Bool
  | .tuple (.int i :: _), .tuple (.int j :: _) => if i = j then none else some (decide (i < j))
  | _, _ => none
def dLtM (x y : D) : Option Bool := match dLt x y with
  | some b => some b
  | none => firstD x y
def dLe : D → D → Option Bool
  | .int i, .int j => some (decide (i ≤ j))
  | .str i, .str j => some (!decide (j.cps.toList < i.cps.toList))
  | _, _ => none

/-! ### dicts -/
def kIx (ks : List NestedKey) (k : NestedKey) : Option Nat := ks.findIdx? fun x => decide (x = k)
def kvIx (kvs : List (D × D)) (k : NestedKey) : Option Nat := (keysOf (kvs.map (·.1))).bind fun ks => kIx ks k
def kvAt (kvs : List (D × D)) (k : NestedKey) : Option D := (kvIx kvs k).bind fun i => kvs[i]?.map (·.2)
def kvPut (kvs : List (D × D)) (k : NestedKey) (kd v : D) : List (D × D) := match kvIx kvs k with
  | some i => kvs.modify i fun p => (p.1, v)
  | none => kvs ++ [(kd, v)]
def pairsOf : List D → Option (List (D × D))
  | [] => some []
  | .tuple [k, v] :: r => (pairsOf r).map ((k, v) :: ·)
  | _ :: _ => none
/-- dict(pairs) -/
def dictOf : List (D × D) → List (D × D) → Option (List (D × D))
  | acc, [] => some acc
  | acc, (k, v) :: r => (keyD k).bind fun kk => dictOf (kvPut acc kk k v) r

/-- (("..",), n): what a form is -/
def isForm : D → Bool
  | .tuple [.tuple [.str _], .int _] => true
  | _ => false
/-- (({..},), n) -/
def isHead : D → Bool
  | .tuple [.tuple [.dict _], .int _] => true
  | _ => false
mutual
/-- no list in it -/
def noL : D → Bool
  | .list _ => false
  | .dict kvs => noLK kvs
  | .tuple xs => noLA xs
  | .none => true
  | .bool _ => true
  | .int _ => true
  | .str _ => true
def noLA : List D → Bool
  | [] => true
  | x :: xs => noL x && noLA xs
def noLK : List (D × D) → Bool
  | [] => true
  | (k, v) :: r => noL k && noL v && noLK r
end
def dIn (x : D) : D → Option Bool
  | .list ys => if SeqAt.shaped x = true ∧ SeqAt.shaped (.list ys) = true then some (ys.any fun y => PyData.eqv y x) else none
  | .tuple ys => if SeqAt.shaped x = true ∧ SeqAt.shaped (.tuple ys) = true then some (ys.any fun y => PyData.eqv y x) else if isHead x = true ∧ ys.all isForm = true then some false else none
  | .str z => match x with
    | .str y => some (!(Builtin.Str.occurrences z y 0 z.length 1).isEmpty)
    | _ => none
  | .dict kvs => (keyD x).map fun k => (kvAt kvs k).isSome
  | _ => none

def dCmp : CO → D → D → Option Bool
  | .eq, x, y => dEq x y
  | .ne, x, y => (dEq x y).map (!·)
  | .lt, x, y => dLtM x y
  | .gt, x, y => dLt y x
  | .le, x, y => dLe x y
  | .ge, x, y => dLe y x
  | .isin, x, y => dIn x y
  | .notin, x, y => (dIn x y).map (!·)

def isNone : D → Bool
  | .none => true
  | _ => false

/-- the item at a place -/
def dIdx : D → D → Option D
  | .list xs, .int i => atI xs i
  | .tuple xs, .int i => atI xs i
  | .str z, .int i => if z.length ≤ sizeLine then (atI z.cps.toList i).map fun c => .str ⟨#[c]⟩ else none
  | .dict kvs, k => (keyD k).bind fun kk => kvAt kvs kk
  | _, _ => none
/-- a slice's bounds -/
def bnd : D → Option (Option Int)
  | .int i => some (some i)
  | _ => none
def cutD (xs : List D) (lo hi : Option Int) : List D := (xs.drop (HT.sIx xs.length 0 lo)).take (HT.sIx xs.length xs.length hi - HT.sIx xs.length 0 lo)
def dSlc : D → Option Int → Option Int → Option D
  | .list xs, lo, hi => some (.list (cutD xs lo hi))
  | .tuple xs, lo, hi => some (.tuple (cutD xs lo hi))
  | .str z, lo, hi => if z.length ≤ sizeLine then some (.str (cutS z lo hi)) else none
  | _, _, _ => none

def intsOf : List D → Option (List Int)
  | [] => some []
  | .int i :: r => (intsOf r).map (i :: ·)
  | _ :: _ => none
def boolsOf : List D → Option (List Bool)
  | [] => some []
  | .bool i :: r => (boolsOf r).map (i :: ·)
  | _ :: _ => none
def strsOf : List D → Option (List Str)
  | [] => some []
  | .str i :: r => (strsOf r).map (i :: ·)
  | _ :: _ => none

/-- may be sorted: alike data, no text out of range, not too deep -/
def alikeL (xs : List D) : Bool := (xs.all fun x => xs.all fun y => PySem.W.alike x y) && ((xs.all fun x => match x with | .tuple (_ :: _) => true | _ => false) || (xs.all fun x => match x with | .none => false | .tuple _ => false | _ => true)) && xs.all fun x => decide (x.depth ≤ 60)
def dSorted (xs : List D) : Option (List D) := if alikeL xs = true ∧ xs.length ≤ sizeLine then some (xs.mergeSort (PySem.W.dataLe false id)) else none

/-- tuples alike up to the first place where they differ -/
def mixL (xs : List D) : Bool := (xs.all fun x => xs.all fun y => PySem.W.mix x y) && (xs.all fun x => match x with | .tuple (_ :: _) => true | _ => false) && xs.all fun x => decide (x.depth ≤ 60)
/-- sorted by keys -/
def dSortBy (xs ks : List D) : Option (List D) := if (alikeL ks = true ∨ mixL ks = true) ∧ xs.length ≤ sizeLine ∧ xs.length = ks.length then some (((xs.zip ks).mergeSort (PySem.W.dataLe false Prod.snd)).map Prod.fst) else none

def dRepr (x : D) : Option D := if x.showable = true ∧ (x.hasDict = false ∨ noL x = true) ∧ x.depth ≤ 60 ∧ x.shown.length ≤ sizeLine then some (.str x.shown) else none

def dB1 : B1 → D → Option D
  | .len, .list xs => some (.int xs.length)
  | .len, .tuple xs => some (.int xs.length)
  | .len, .str z => if z.length ≤ sizeLine then some (.int z.length) else none
  | .tuple, .list xs => some (.tuple xs)
  | .tuple, .tuple xs => some (.tuple xs)
  | .list, .list xs => some (.list xs)
  | .list, .tuple xs => some (.list xs)
  | .list, .dict kvs => some (.list (kvs.map (·.1)))
  | .len, .dict kvs => some (.int kvs.length)
  | .dict, .list xs => if xs.length ≤ sizeLine then ((pairsOf xs).bind (dictOf [])).map .dict else none
  | .dict, .tuple xs => if xs.length ≤ sizeLine then ((pairsOf xs).bind (dictOf [])).map .dict else none
  | .max1, .list xs => (intsOf xs).bind fun ns => ns.max?.map .int
  | .min1, .list xs => (intsOf xs).bind fun ns => ns.min?.map .int
  | .max1, .tuple xs => (intsOf xs).bind fun ns => ns.max?.map .int
  | .min1, .tuple xs => (intsOf xs).bind fun ns => ns.min?.map .int
  | .sorted, .list xs => (dSorted xs).map .list
  | .repr, x => dRepr x
  | .int, .int i => some (.int i)
  | .int, .bool b => some (.int (if b = true then 1 else 0))
  | .abs, .int i => some (.int (if i < 0 then -i else i))
  | .sum, .list xs => (intsOf xs).map fun ns => .int ns.sum
  | .all, .list xs => (boolsOf xs).map fun bs => .bool (bs.all id)
  | .any, .list xs => (boolsOf xs).map fun bs => .bool (bs.any id)
  | _, _ => none
def dB2 : B2 → D → D → Option D
  | .max, .int i, .int j => some (.int (if j > i then j else i))
  | .min, .int i, .int j => some (.int (if j < i then j else i))
  | _, _, _ => none

def isTy : TY → D → Bool
  | .int, .int _ => true
  | .int, .bool _ => true
  | .bool, .bool _ => true
  | .str, .str _ => true
  | .tuple, .tuple _ => true
  | .list, .list _ => true
  | .dict, .dict _ => true
  | _, _ => false

/-- xs.index(x), x is there; keys alone -/
def dIndex : D → D → Option D
  | .tuple xs, x => match keysOf xs, keyOf x with
    | some ks, some k => if k ∈ ks ∧ k.depth ≤ 60 ∧ xs.length ≤ sizeLine then some (.int (ks.idxOf k : Nat)) else none
    | _, _ => none
  | .list xs, x => match keysOf xs, keyOf x with
    | some ks, some k => if k ∈ ks ∧ k.depth ≤ 60 ∧ xs.length ≤ sizeLine then some (.int (ks.idxOf k : Nat)) else none
    | _, _ => none
  | .str z, .str y => match Builtin.Str.occurrences z y 0 z.length 1 with
    | i :: _ => some (.int (i : Nat))
    | [] => none
  | _, _ => none
def dJoin : D → D → Option D
  | .str z, .list xs => match strsOf xs with
    | some ys => if (ys.map (·.length)).sum + ys.length * z.length ≤ 16777216 then some (.str (Txt.join z ys)) else none
    | _ => none
  | _, _ => none
def dM1 : M1 → D → D → Option D
  | .index, x, y => dIndex x y
  | .count, .list xs, y => if SeqAt.shaped y = true ∧ SeqAt.shaped (.list xs) = true then some (.int (xs.countP (fun x => PyData.eqv x y) : Nat)) else none
  | .get, .dict kvs, k => (keyD k).map fun kk => (kvAt kvs kk).getD .none
  | .join, x, y => dJoin x y
  | _, _, _ => none
def dM2 : M2 → D → D → D → Option D
  | .get, .dict kvs, k, x => (keyD k).map fun kk => (kvAt kvs kk).getD x
  | _, _, _, _ => none
/-- whole numbers, each once, in order -/
def insU (k : Int) : List Int → List Int
  | [] => [k]
  | x :: xs => if k < x then k :: x :: xs else if k = x then x :: xs else x :: insU k xs
def ssetI (ns : List Int) : List Int := ns.foldr insU []

/-! ### slots -/
def wipeS (ρ : LS) : List Nat → LS
  | [] => ρ
  | v :: vs => (wipeS ρ vs).set v .un
/-- a target's slots -/
def bindT : MT → D → LS → Option LS
  | .nm i, x, ρ => if i < ρ.length then some (ρ.set i (.d x)) else none
  | .two a b, x, ρ => match x with
    | .tuple [p, q] => (bindT a p ρ).bind (bindT b q)
    | _ => none
  | .three a b c, x, ρ => match x with
    | .tuple [p, q, r] => ((bindT a p ρ).bind (bindT b q)).bind (bindT c r)
    | _ => none
  | .four a b c d, x, ρ => match x with
    | .tuple [p, q, r, t] => (((bindT a p ρ).bind (bindT b q)).bind (bindT c r)).bind (bindT d t)
    | _ => none
  | .sixL a b c d e f, x, ρ => match x with
    | .list [p, q, r, t, u, v] => (((((bindT a p ρ).bind (bindT b q)).bind (bindT c r)).bind (bindT d t)).bind (bindT e u)).bind (bindT f v)
    | _ => none
def MT.slots : MT → List Nat
  | .nm i => [i]
  | .two a b => a.slots ++ b.slots
  | .three a b c => a.slots ++ b.slots ++ c.slots
  | .four a b c d => a.slots ++ b.slots ++ c.slots ++ d.slots
  | .sixL a b c d e f => a.slots ++ b.slots ++ c.slots ++ d.slots ++ e.slots ++ f.slots

/-- the turns of a comprehension -/
def compRun (ft : LS → S1 → Option (Bool × S1)) (fe : LS → S1 → Option (D × S1)) (t : MT) (ρ : LS) : List D → S1 → Option (List D × S1)
  | [], s => some ([], s)
  | x :: xs, s => (bindT t x ρ).bind fun ρ1 => (ft ρ1 s).bind fun (b, s1) =>
      if b = true then (fe ρ1 s1).bind fun (y, s2) => (compRun ft fe t ρ xs s2).map fun (ys, s3) => (y :: ys, s3) else compRun ft fe t ρ xs s1

def seqOf : D → Option (List D)
  | .list xs => some xs
  | .tuple xs => some xs
  | _ => none
/-- what a for may walk -/
def itOf : D → Option (List D)
  | .list xs => some xs
  | .tuple xs => some xs
  | .str z => if z.length ≤ sizeLine then some (z.cps.toList.map fun c => .str ⟨#[c]⟩) else none
  | _ => none
/-- what sorted(.., key=..) may walk -/
def walkOf : D → Option (List D)
  | .list xs => some xs
  | .tuple xs => some xs
  | .dict kvs => some (kvs.map (·.1))
  | _ => none
def isBool (b : Bool) : D → Bool
  | .bool c => c == b
  | _ => false
/-- what a lambda sees of a slot -/
def capt (ρ : LS) (j : Nat) : SL := match ρ[j]? with
  | some (.d x) => .d x
  | _ => .un
/-- the keys of a sort: no drawing in it, nothing changed -/
def keysRun (f : D → Option (D × S1)) : List D → Option (List D)
  | [] => some []
  | x :: xs => (f x).bind fun (k, _) => (keysRun f xs).map (k :: ·)
/-- the defs in which no lambda is made, the others told nothing of -/
def pureL (l : List FE) : List FE := l.map fun F => if F.pure = true then F else { F with sem := fun _ _ => none }
def rangeD (lo : Int) (n : Nat) : List D := (List.range n).map fun i => .int (lo + (i : Nat))
def enumD (xs : List D) : List D := (List.range xs.length).zipWith (fun i x => .tuple [.int (i : Nat), x]) xs
def zipD (xs ys : List D) : List D := xs.zipWith (fun x y => .tuple [x, y]) ys

mutual
def ev (Φ : List FE) : ME → LS → S1 → Option (D × S1)
  | .nm i, ρ, s => match ρ[i]? with
    | some (.d x) => some (x, s)
    | _ => none
  | .k d, _, s => some (d, s)
  | .tup es, ρ, s => (evs Φ es ρ s).bind fun (ds, s1) => if ds.length ≤ sizeLine then some (.tuple ds, s1) else none
  | .lst es, ρ, s => (evs Φ es ρ s).bind fun (ds, s1) => if ds.length ≤ sizeLine then some (.list ds, s1) else none
  | .op o a b, ρ, s => (ev Φ a ρ s).bind fun (x, s1) => (ev Φ b ρ s1).bind fun (y, s2) => (dOp o x y).map fun z => (z, s2)
  | .catL a b, ρ, s => (ev Φ a ρ s).bind fun (x, s1) => (ev Φ b ρ s1).bind fun (y, s2) => match x, y with
    | .list xs, .list ys => if xs.length + ys.length ≤ sizeLine then some (.list (xs ++ ys), s2) else none
    | _, _ => none
  | .sll a lo hi, ρ, s => (ev Φ a ρ s).bind fun (x, s1) => (evo Φ lo ρ s1).bind fun (l, s2) => (evo Φ hi ρ s2).bind fun (h, s3) => match x with
    | .list xs => some (.list (cutD xs l h), s3)
    | _ => none
  | .sset a, ρ, s => (ev Φ a ρ s).bind fun (x, s1) => match x with
    | .list xs => (intsOf xs).bind fun ns => if ns.length < 64 then some (.list ((ssetI ns).map .int), s1) else none
    | _ => none
  | .inG a xs, ρ, s => (ev Φ a ρ s).bind fun (x, s1) => (dIn x (.tuple xs)).map fun z => (.bool z, s1)
  | .up a, ρ, s => (ev Φ a ρ s).bind fun (x, s1) => match x with
    | .str z => if z.length ≤ 5592405 then some (.str (Txt.upper z), s1) else none
    | _ => none
  | .neg a, ρ, s => (ev Φ a ρ s).bind fun (x, s1) => match x with
    | .int i => some (.int (-i), s1)
    | _ => none
  | .cmp o a b, ρ, s => (ev Φ a ρ s).bind fun (x, s1) => (ev Φ b ρ s1).bind fun (y, s2) => (dCmp o x y).map fun z => (.bool z, s2)
  | .isN a, ρ, s => (ev Φ a ρ s).bind fun (x, s1) => some (.bool (isNone x), s1)
  | .notN a, ρ, s => (ev Φ a ρ s).bind fun (x, s1) => some (.bool (!isNone x), s1)
  | .chn o q a b c, ρ, s => (ev Φ a ρ s).bind fun (x, s1) => (ev Φ b ρ s1).bind fun (y, s2) => (dCmp o x y).bind fun z =>
      if z = true then (ev Φ c ρ s2).bind fun (w, s3) => (dCmp q y w).map fun z => (.bool z, s3) else some (.bool false, s2)
  | .and_ a b, ρ, s => (ev Φ a ρ s).bind fun (x, s1) => (tru x).bind fun t => if t = true then ev Φ b ρ s1 else some (x, s1)
  | .or_ a b, ρ, s => (ev Φ a ρ s).bind fun (x, s1) => (tru x).bind fun t => if t = true then some (x, s1) else ev Φ b ρ s1
  | .not_ a, ρ, s => (ev Φ a ρ s).bind fun (x, s1) => (tru x).map fun t => (.bool (!t), s1)
  | .ite c a b, ρ, s => (ev Φ c ρ s).bind fun (x, s1) => (tru x).bind fun t => if t = true then ev Φ a ρ s1 else ev Φ b ρ s1
  | .idx a i, ρ, s => (ev Φ a ρ s).bind fun (x, s1) => (ev Φ i ρ s1).bind fun (y, s2) => (dIdx x y).map fun z => (z, s2)
  | .slc a lo hi, ρ, s => (ev Φ a ρ s).bind fun (x, s1) => (evo Φ lo ρ s1).bind fun (l, s2) => (evo Φ hi ρ s2).bind fun (h, s3) => (dSlc x l h).map fun z => (z, s3)
  | .revl a, ρ, s => (ev Φ a ρ s).bind fun (x, s1) => match x with
    | .list xs => some (.list xs.reverse, s1)
    | .tuple xs => some (.tuple xs.reverse, s1)
    | _ => none
  | .call f as, ρ, s => (eva Φ as ρ s).bind fun (xs, s1) => match Φ[f]? with
    | some F => if xs.length = F.ar then F.sem xs s1 else none
    | none => none
  | .b1 f a, ρ, s => (ev Φ a ρ s).bind fun (x, s1) => (dB1 f x).map fun z => (z, s1)
  | .b2 f a b, ρ, s => (ev Φ a ρ s).bind fun (x, s1) => (ev Φ b ρ s1).bind fun (y, s2) => (dB2 f x y).map fun z => (z, s2)
  | .isi a t, ρ, s => (ev Φ a ρ s).bind fun (x, s1) => some (.bool (isTy t x), s1)
  | .m1 f o a, ρ, s => (ev Φ o ρ s).bind fun (x, s1) => (ev Φ a ρ s1).bind fun (y, s2) => (dM1 f x y).map fun z => (z, s2)
  | .m2 f o a b, ρ, s => (ev Φ o ρ s).bind fun (x, s1) => (ev Φ a ρ s1).bind fun (y, s2) => (ev Φ b ρ s2).bind fun (w, s3) => (dM2 f x y w).map fun z => (z, s3)
  | .bad, _, _ => none
  | .isB b a, ρ, s => (ev Φ a ρ s).bind fun (x, s1) => some (.bool (isBool b x), s1)
  | .dict0, _, s => some (.dict [], s)
  | .sortK f a, ρ, s => (ev Φ a ρ s).bind fun (x, s1) => (walkOf x).bind fun xs => match (pureL Φ)[f]? with
    | some F => if F.ar = 1 then (keysRun (fun y => F.sem [.d y] none) xs).bind fun ks => (dSortBy xs ks).map fun ys => (.list ys, s1) else none
    | none => none
  | .sortL a js m, ρ, s => (ev Φ a ρ s).bind fun (x, s1) => (walkOf x).bind fun xs => (keysRun (fun y => ev (pureL Φ) m (.d y :: js.map (capt ρ)) none) xs).bind fun ks => (dSortBy xs ks).map fun ys => (.list ys, s1)
  | .join o a, ρ, s => (ev Φ o ρ s).bind fun (x, s1) => (ev Φ a ρ s1).bind fun (y, s2) => (dJoin x y).map fun z => (z, s2)
  | .comp elt t it ifs own, ρ, s => (evi Φ it ρ s).bind fun (xs, s1) => (compRun (evt Φ ifs) (ev Φ elt) t (wipeS ρ own) xs s1).bind fun (ys, s2) => if ys.length ≤ sizeLine then some (.list ys, s2) else none
def evs (Φ : List FE) : MEs → LS → S1 → Option (List D × S1)
  | .nil, _, s => some ([], s)
  | .cons e r, ρ, s => (ev Φ e ρ s).bind fun (x, s1) => (evs Φ r ρ s1).map fun (xs, s2) => (x :: xs, s2)
  | .star e r, ρ, s => (ev Φ e ρ s).bind fun (x, s1) => (seqOf x).bind fun ys => (evs Φ r ρ s1).map fun (xs, s2) => (ys ++ xs, s2)
def evt (Φ : List FE) : MEs → LS → S1 → Option (Bool × S1)
  | .nil, _, s => some (true, s)
  | .cons e r, ρ, s => (ev Φ e ρ s).bind fun (x, s1) => (tru x).bind fun t => if t = true then evt Φ r ρ s1 else some (false, s1)
  | .star _ _, _, _ => none
def eva (Φ : List FE) : MAs → LS → S1 → Option (List SL × S1)
  | .nil, _, s => some ([], s)
  | .cons e r, ρ, s => (ev Φ e ρ s).bind fun (x, s1) => (eva Φ r ρ s1).map fun (xs, s2) => (.d x :: xs, s2)
  | .src i r, ρ, s => match ρ[i]? with
    | some .src => (eva Φ r ρ s).map fun (xs, s2) => (.src :: xs, s2)
    | _ => none
def evo (Φ : List FE) : MO → LS → S1 → Option (Option Int × S1)
  | .no, _, s => some (none, s)
  | .yes e, ρ, s => (ev Φ e ρ s).bind fun (x, s1) => (bnd x).map fun i => (i, s1)
def evi (Φ : List FE) : MI → LS → S1 → Option (List D × S1)
  | .seq e, ρ, s => (ev Φ e ρ s).bind fun (x, s1) => (itOf x).map fun xs => (xs, s1)
  | .range1 e, ρ, s => (ev Φ e ρ s).bind fun (x, s1) => match x with
    | .int j => if -(2 ^ 62) ≤ j ∧ j < 2 ^ 62 then some (rangeD 0 j.toNat, s1) else none
    | _ => none
  | .range2 a b, ρ, s => (ev Φ a ρ s).bind fun (x, s1) => (ev Φ b ρ s1).bind fun (y, s2) => match x, y with
    | .int i, .int j => if (-(2 ^ 62) ≤ i ∧ i < 2 ^ 62) ∧ -(2 ^ 62) ≤ j ∧ j < 2 ^ 62 then some (rangeD i (j - i).toNat, s2) else none
    | _, _ => none
  | .enum e, ρ, s => (ev Φ e ρ s).bind fun (x, s1) => match x with
    | .list xs => some (enumD xs, s1)
    | .tuple xs => some (enumD xs, s1)
    | .str z => some (enumD (z.cps.toList.map fun c => .str ⟨#[c]⟩), s1)
    | _ => none
  | .zip a b, ρ, s => (ev Φ a ρ s).bind fun (x, s1) => (ev Φ b ρ s1).bind fun (y, s2) => match x, y with
    | .list xs, .list ys => some (zipD xs ys, s2)
    | .tuple xs, .tuple ys => some (zipD xs ys, s2)
    | _, _ => none
  | .items _, _, _ => none
  | .values _, _, _ => none
end

/-- always a new list, or a new dict -/
def newE (Φ : List FE) : ME → Bool
  | .lst _ => true
  | .comp _ _ _ _ _ => true
  | .call f _ => match Φ[f]? with
    | some F => F.fresh
    | none => false
  | .b1 .list _ => true
  | .b1 .sorted _ => true
  | .b1 .dict _ => true
  | .dict0 => true
  | .sortK _ _ => true
  | .sortL _ _ _ => true
  | .catL _ _ => true
  | .sll _ _ _ => true
  | .sset _ => true
  | .ite _ a b => newE Φ a && newE Φ b
  | _ => false
end Os
end
section
set_option linter.all false
set_option maxRecDepth 100000
set_option maxHeartbeats 4000000
/-! OsC: how the evaluator's answers stand over the abstract heap; the operations. -/
namespace Os
open PySem PySem.Spec PyProof.Rows L2

/-- the defs that may be called; the tables of code objects -/
structure Fs where
  T : List (Addr × Str)
  l : List FE
  /-- whether lambdas may be made here -/
  b : Bool
/-- where the source stands; T: the tables -/
structure GS (T : List (Addr × Str)) where
  src : Option (Addr × Addr)
/-- what is no data: the source's own addresses, the tables -/
def Own2 {T : List (Addr × Str)} (g : GS T) (b : Addr) : Prop := (∃ a c, g.src = some (a, c) ∧ (b = a ∨ b = c)) ∨ b ∈ T.map (·.1)
def Src0 (g : Option (Addr × Addr)) (H : Hp) (s : S1) : Prop := match g, s with
  | none, none => True
  | some (a, c), some S => H a = some (.dK [(.inr "cells", .ref c), (.inr "left", .int S.left), (.inr "mixed", .int S.mixed), (.inr "turn", .int S.turn)]) ∧ H c = some (.lst (S.cells.map V.int))
  | _, _ => False
def SrcR {T : List (Addr × Str)} (g : GS T) (H : Hp) (s : S1) : Prop := Src0 g.src H s ∧ LamX.Tabs T H
def Keep (g : GS T) (H H' : Hp) : Prop := ∀ b o, H b = some o → ¬ Own2 g b → H' b = some o
def Up (G : Addr → Prop) (H : Hp) : Addr → Prop := fun b => G b ∨ H b = none

section
variable {w : World} {g : GS T} {G G' : Addr → Prop} {H H1 H2 H3 : Hp} {s s1 s2 : S1}
theorem Keep.refl : Keep g H H := fun _ _ e _ => e
theorem Keep.trans (a : Keep g H H1) (b : Keep g H1 H2) : Keep g H H2 := fun c o e n => b c o (a c o e n) n
theorem Keep.of (a : Same H H1) : Keep g H H1 := fun c o e _ => a c o e
theorem Src0.at {g : Option (Addr × Addr)} (r : Src0 g H s) {a c : Addr} (e : g = some (a, c)) : ∃ S, s = some S ∧ H a = some (.dK [(.inr "cells", .ref c), (.inr "left", .int S.left), (.inr "mixed", .int S.mixed), (.inr "turn", .int S.turn)]) ∧ H c = some (.lst (S.cells.map V.int)) := by
  subst e
  cases s with
  | none => exact r.elim
  | some S => exact ⟨S, rfl, r⟩
theorem Src0.same {g : Option (Addr × Addr)} (r : Src0 g H s) (k : Same H H1) : Src0 g H1 s := by
  unfold Src0 at r ⊢
  split at r
  · trivial
  · exact ⟨k _ _ r.1, k _ _ r.2⟩
  · exact r.elim
theorem tab_there {T : List (Addr × Str)} {b : Addr} (t : LamX.Tabs T H) (h : b ∈ T.map (·.1)) : ∃ ps, H b = some (.tbl ps) := by
  obtain ⟨p, hp, e⟩ := List.mem_map.mp h
  obtain ⟨ps, h1, _⟩ := t p hp
  exact ⟨ps, by rw [← e]; exact h1⟩
theorem SrcR.tup (r : SrcR g H s) {b : Addr} {o : Obj} {xs : List V} (e : H b = some (.frz o (.tup xs))) : ¬ Own2 g b := by
  rintro (⟨a, c, e1, z⟩ | z)
  · obtain ⟨S, _, r1, r2⟩ := r.1.at e1
    rcases z with z | z
    · rw [z, r1] at e
      cases e
    · rw [z, r2] at e
      cases e
  · obtain ⟨ps, h⟩ := tab_there r.2 z
    rw [h] at e
    cases e
theorem SrcR.there (r : SrcR g H s) {b : Addr} (z : Own2 g b) : H b ≠ none := by
  rcases z with ⟨a, c, e1, z⟩ | z
  · obtain ⟨S, _, r1, r2⟩ := r.1.at e1
    rcases z with z | z
    · rw [z, r1]
      exact fun e => nomatch e
    · rw [z, r2]
      exact fun e => nomatch e
  · obtain ⟨ps, h⟩ := tab_there r.2 z
    rw [h]
    exact fun e => nomatch e
theorem SrcR.same (r : SrcR g H s) (k : Same H H1) : SrcR g H1 s := ⟨r.1.same k, r.2.ext fun b o e => k b o e⟩
theorem Keep.alive (k : Keep g H H1) (r : SrcR g H1 s) {b : Addr} (e : H1 b = none) : H b = none := by
  cases q : H b with
  | none => rfl
  | some o =>
    by_cases z : Own2 g b
    · exact absurd e (r.there z)
    · rw [k b o q z] at e
      cases e
theorem Up.up (k : Keep g H H1) (r : SrcR g H1 s) (b : Addr) (h : Up (Up G H) H1 b) : Up G H b := h.elim id fun e => .inr (k.alive r e)
theorem Up.gok (r : SrcR g H s) (hg : ∀ b, G b → ¬ Own2 g b) : ∀ b, Up G H b → ¬ Own2 g b := fun b h z => h.elim (fun q => hg b q z) fun e => r.there z e
theorem Dat.keep {v : V} {d : D} (q : Dat w G H v d) (k : Keep g H H1) (r : SrcR g H s) (hg : ∀ b, G b → ¬ Own2 g b) : Dat w G H1 v d :=
  Dat.go (fun b o gb e => ⟨k b o e (hg b gb), gb⟩) (fun b o xs e => k b _ e (r.tup e)) q
theorem Dats.keep {v : List V} {d : List D} (q : Dats w G H v d) (k : Keep g H H1) (r : SrcR g H s) (hg : ∀ b, G b → ¬ Own2 g b) : Dats w G H1 v d :=
  Dats.go (fun b o gb e => ⟨k b o e (hg b gb), gb⟩) (fun b o xs e => k b _ e (r.tup e)) q
end

/-- the state of an expression: the slots that it may read, the source -/
structure ES (w : World) (g : GS T) (G : Addr → Prop) (σ : L2.St) (H : Hp) (ρ : LS) (s : S1) : Prop where
  gok : ∀ b, G b → ¬ Own2 g b
  src : SrcR g H s
  env : ∀ (i : Nat) (x : D), ρ[i]? = some (SL.d x) → ∃ v, σ[i]? = some (some v) ∧ Dat w G H v x
  esrc : ∀ (i : Nat), ρ[i]? = some SL.src → ∃ (a c : Addr), g.src = some (a, c) ∧ σ[i]? = some (some (V.ref a))
  len : ρ.length = σ.length
/-- behind an expression -/
structure Ps (w : World) (g : GS T) (G : Addr → Prop) (H : Hp) (H' : Hp) (v : V) (d : D) (s' : S1) : Prop where
  keep : Keep g H H'
  src : SrcR g H' s'
  dat : Dat w (Up G H) H' v d
/-- a dict's entries read as the pairs -/
structure DKV (w : World) (G : Addr → Prop) (H : Hp) (es : List (NestedKey × V × V)) (kvs : List (D × D)) : Prop where
  ks : Dats w G H (es.map (·.2.1)) (kvs.map (·.1))
  vs : Dats w G H (es.map (·.2.2)) (kvs.map (·.2))
  id : keysOf (kvs.map (·.1)) = some (es.map (·.1))
/-- a new list, or a new dict: nothing in it is it -/
def NewL (w : World) (G : Addr → Prop) (H H' : Hp) (v : V) (d : D) : Prop := ∃ (p : Addr), v = .ref p ∧ H p = none ∧ ((∃ (vs : List V) (ds : List D), d = .list ds ∧ H' p = some (.lst vs) ∧ Dats w (fun b => Up G H b ∧ b ≠ p) H' vs ds) ∨
  ∃ es kvs, d = .dict kvs ∧ H' p = some (dO w p es) ∧ DKV w (fun b => Up G H b ∧ b ≠ p) H' es kvs)

def tE (w : World) (Φ : Fs) (m : ME) : TE := fun σ H Q => ∃ (g : GS Φ.T), ∃ G ρ s d s', ES w g G σ H ρ s ∧ ev Φ.l m ρ s = some (d, s') ∧ ∀ v H', Ps w g G H H' v d s' → (newE Φ.l m = true → NewL w G H H' v d) → Q v H'
def tT (w : World) (Φ : Fs) (m : ME) : TT := fun σ H Q => ∃ (g : GS Φ.T), ∃ G ρ s d s' b, ES w g G σ H ρ s ∧ ev Φ.l m ρ s = some (d, s') ∧ tru d = some b ∧ ∀ H', Keep g H H' → SrcR g H' s' → Q b H'

section
variable {w : World} {Φ : Fs} {g : GS Φ.T} {G : Addr → Prop} {σ : L2.St} {H H1 H2 H3 : Hp} {ρ : LS} {s s1 s2 s3 : S1}
theorem ES.next {v : V} {d : D} (E : ES w g G σ H ρ s) (p : Ps w g G H H1 v d s1) : ES w g (Up G H) σ H1 ρ s1 where
  gok := Up.gok E.src E.gok
  src := p.src
  env := fun i x e => by
    obtain ⟨v, h1, h2⟩ := E.env i x e
    exact ⟨v, h1, (h2.keep p.keep E.src E.gok).mono fun b h => .inl h⟩
  esrc := E.esrc
  len := E.len
theorem ES.step (E : ES w g G σ H ρ s) (k : Keep g H H1) (r : SrcR g H1 s1) : ES w g (Up G H) σ H1 ρ s1 where
  gok := Up.gok E.src E.gok
  src := r
  env := fun i x e => by
    obtain ⟨v, h1, h2⟩ := E.env i x e
    exact ⟨v, h1, (h2.keep k E.src E.gok).mono fun b h => .inl h⟩
  esrc := E.esrc
  len := E.len
/-- a value that stood at the first stop, at the second -/
theorem ES.carry {v u : V} {d e : D} (E : ES w g G σ H ρ s) (k : Keep g H H1) (r : SrcR g H1 s1) (q : Dat w (Up G H) H1 v d) (k2 : Keep g H1 H2) : Dat w (Up G H) H2 v d := q.keep k2 r (Up.gok E.src E.gok)
theorem Ps.comp {v : V} {d : D} (E : ES w g G σ H ρ s) (k : Keep g H H1) (r : SrcR g H1 s1) (p : Ps w g (Up G H) H1 H2 v d s2) : Ps w g G H H2 v d s2 :=
  ⟨k.trans p.keep, p.src, p.dat.mono fun b h => Up.up k r b h⟩

theorem bind_some {α β : Type} {o : Option α} {f : α → Option β} {y : β} (h : o.bind f = some y) : ∃ x, o = some x ∧ f x = some y := Option.bind_eq_some_iff.mp h
theorem map_some {α β : Type} {o : Option α} {f : α → β} {y : β} (h : o.map f = some y) : ∃ x, o = some x ∧ f x = y := Option.map_eq_some_iff.mp h

/-- one part, then what is made of it -/
theorem one {m : ME} {x : D} {Q : VK} (E : ES w g G σ H ρ s) (h : ev Φ.l m ρ s = some (x, s1)) (k : ∀ v H1, Keep g H H1 → SrcR g H1 s1 → Dat w (Up G H) H1 v x → Q v H1) : tE w Φ m σ H Q :=
  ⟨g, G, ρ, s, x, s1, E, h, fun v H1 p _ => k v H1 p.keep p.src p.dat⟩
/-- two parts -/
theorem two {m n : ME} {x y : D} {R : V → V → Hp → Prop} (E : ES w g G σ H ρ s) (h : ev Φ.l m ρ s = some (x, s1)) (h' : ev Φ.l n ρ s1 = some (y, s2))
    (k : ∀ v u H2, Keep g H H2 → SrcR g H2 s2 → Dat w (Up G H) H2 v x → Dat w (Up G H) H2 u y → R v u H2) : tE w Φ m σ H fun v H1 => tE w Φ n σ H1 fun u H2 => R v u H2 :=
  one E h fun v H1 k1 r1 d1 => one (E.step k1 r1) h' fun u H2 k2 r2 d2 =>
    k v u H2 (k1.trans k2) r2 (d1.keep k2 r1 (Up.gok E.src E.gok)) (d2.mono fun b q => Up.up k1 r1 b q)
end

/-! ### operations by data -/
/-- a two-place operation on data that changes nothing -/
def rD2 (w : World) (f : D → D → Option D) : R2 := fun x y H Q => ∃ G dx dy d, Dat w G H x dx ∧ Dat w G H y dy ∧ f dx dy = some d ∧ ∀ v H', Same H H' → Dat w (Up G H) H' v d → Q v H'
def rD1 (w : World) (f : D → Option D) : V → Hp → VK → Prop := fun x H Q => ∃ G dx d, Dat w G H x dx ∧ f dx = some d ∧ ∀ v H', Same H H' → Dat w (Up G H) H' v d → Q v H'

section
variable {w : World} {G : Addr → Prop} {H : Hp} {p : Addr} {vs : List V} {ds : List D}
theorem same_new {o : HO} (h : H p = none) : Same H (upd H p o) := fun b x e => by
  rw [upd_ne (ne_of_none e h)]
  exact e
theorem Dat.newL (h : H p = Option.none) (r : Dats w G H vs ds) : Dat w (Up G H) (upd H p (.lst vs)) (.ref p) (.list ds) :=
  .list (.inr h) upd_same ((r.same (same_new h)).mono fun b q => .inl q)
theorem Dat.newT {o : Obj} (h : H p = Option.none) (n : o.dict = .none) (r : Dats w G H vs ds) : Dat w (Up G H) (upd H p (.frz o (.tup vs))) (.ref p) (.tuple ds) :=
  .tup upd_same n ((r.same (same_new h)).mono fun b q => .inl q)
mutual
/-- what is read stands -/
theorem Dat.live : ∀ {v : V} {d : D}, Dat w G H v d → Dat w (fun b => G b ∧ H b ≠ Option.none) H v d
  | _, _, .none => .none
  | _, _, .bool b => .bool b
  | _, _, .int i => .int i
  | _, _, .str x => .str x
  | _, _, .list g e r => .list ⟨g, by rw [e]; exact fun z => nomatch z⟩ e (Dats.live r)
  | _, _, .tup e n r => .tup e n (Dats.live r)
  | _, _, .dict g e r q k => .dict ⟨g, by rw [e]; exact fun z => nomatch z⟩ e (Dats.live r) (Dats.live q) k
theorem Dats.live : ∀ {vs : List V} {ds : List D}, Dats w G H vs ds → Dats w (fun b => G b ∧ H b ≠ Option.none) H vs ds
  | _, _, .nil => .nil
  | _, _, .cons r q => .cons (Dat.live r) (Dats.live q)
end
theorem NewL.mk (h : H p = none) (r : Dats w G H vs ds) : NewL w G H (upd H p (.lst vs)) (.ref p) (.list ds) :=
  ⟨p, rfl, h, .inl ⟨vs, ds, rfl, upd_same, (r.live.same (same_new h)).mono fun b q => ⟨.inl q.1, fun e => q.2 (e ▸ h)⟩⟩⟩
theorem NewL.list {H' : Hp} {v : V} {ds : List D} (n : NewL w G H H' v (.list ds)) : ∃ p vs, v = .ref p ∧ H p = none ∧ H' p = some (.lst vs) ∧ Dats w (fun b => Up G H b ∧ b ≠ p) H' vs ds := by
  obtain ⟨p, e1, e2, ⟨vs, ds', e3, e4, e5⟩ | ⟨es, kvs, e3, _⟩⟩ := n
  · cases e3
    exact ⟨p, vs, e1, e2, e4, e5⟩
  · cases e3
theorem NewL.dict {H' : Hp} {v : V} {kvs : List (D × D)} (n : NewL w G H H' v (.dict kvs)) : ∃ p es, v = .ref p ∧ H p = none ∧ H' p = some (dO w p es) ∧ DKV w (fun b => Up G H b ∧ b ≠ p) H' es kvs := by
  obtain ⟨p, e1, e2, ⟨vs, ds', e3, e4, e5⟩ | ⟨es, kvs', e3, e4, e5⟩⟩ := n
  · cases e3
  · cases e3
    exact ⟨p, es, e1, e2, e4, e5⟩
theorem DKV.go {G' : Addr → Prop} {H' : Hp} {es : List (NestedKey × V × V)} {kvs : List (D × D)} (r : DKV w G H es kvs) (f : ∀ vs ds, Dats w G H vs ds → Dats w G' H' vs ds) : DKV w G' H' es kvs := ⟨f _ _ r.ks, f _ _ r.vs, r.id⟩
theorem Dat.dictE {v : V} {kvs : List (D × D)} (r : Dat w G H v (.dict kvs)) : ∃ a es, v = .ref a ∧ G a ∧ H a = some (dO w a es) ∧ DKV w G H es kvs := by
  cases r with
  | dict g e r q k => exact ⟨_, _, rfl, g, e, r, q, k⟩
theorem Dat.ofD {a : Addr} {es : List (NestedKey × V × V)} {kvs : List (D × D)} (g : G a) (e : H a = some (dO w a es)) (r : DKV w G H es kvs) : Dat w G H (.ref a) (.dict kvs) := .dict g e r.ks r.vs r.id
theorem Dat.weak (r : Dat w G H v d) : Dat w (Up G H) H v d := r.mono fun b q => .inl q
end

section
variable {X : Cx}
theorem Dat.listE {w : World} {G : Addr → Prop} {H : Hp} {v : V} {ds : List D} (r : Dat w G H v (.list ds)) : ∃ a vs, v = .ref a ∧ G a ∧ H a = some (.lst vs) ∧ Dats w G H vs ds := by
  cases r with
  | list g e r => exact ⟨_, _, rfl, g, e, r⟩
theorem Dat.tupE {w : World} {G : Addr → Prop} {H : Hp} {v : V} {ds : List D} (r : Dat w G H v (.tuple ds)) : ∃ a o vs, v = .ref a ∧ H a = some (.frz o (.tup vs)) ∧ o.dict = Option.none ∧ Dats w G H vs ds := by
  cases r with
  | tup e n r => exact ⟨_, _, _, rfl, e, n, r⟩
theorem Dat.intE {w : World} {G : Addr → Prop} {H : Hp} {v : V} {i : Int} (r : Dat w G H v (.int i)) : v = .int i := by
  cases r
  rfl
theorem Dat.strE {w : World} {G : Addr → Prop} {H : Hp} {v : V} {i : Str} (r : Dat w G H v (.str i)) : v = .str i := by
  cases r
  rfl
theorem Dat.boolE {w : World} {G : Addr → Prop} {H : Hp} {v : V} {i : Bool} (r : Dat w G H v (.bool i)) : v = .bl i := by
  cases r
  rfl
theorem Dat.noneE {w : World} {G : Addr → Prop} {H : Hp} {v : V} (r : Dat w G H v .none) : v = .non := by
  cases r
  rfl

theorem SqT.fz {K : PySem.W.Frag} {H : Hp} {a : Addr} {o : Obj} {vs : List V} (e : H a = some (.frz o (.tup vs))) : SqT K H a vs := .inl (.inr ⟨o, e⟩)
/-- a new tuple, its object known -/
def TupO (H : Hp) (Q : VK) (xs : List V) : Prop := ∀ p o, H p = none → o.dict = none → Q (.ref p) (upd H p (.frz o (.tup xs)))
theorem newTup {pins : List (Addr × Obj)} {σ : L2.St} {H : Hp} {s : Shared} {Q : VK} {xs : List V} {us : List Value} {h' : Heap} {tk : Nat} (I : Inv X pins σ H s) (k : ∀ b o, s.heap.get? b = some o → h'.get? b = some o) (r : Vals xs us) (hz : xs.length ≤ sizeLine) (q : TupO H Q xs) :
    EP X pins σ Q (.ref h'.objs.size) { s with heap := h'.push { cls := .type "tuple", data := .seq us.toArray }, toks := tk } := by
  have I1 : Inv X pins σ H { s with heap := h', toks := tk } := I.kept k
  have hf : H h'.objs.size = none := I1.hok.fresh (Nat.le_refl _)
  refine ⟨.ref h'.objs.size, upd H h'.objs.size (.frz { cls := .type "tuple", data := .seq us.toArray } (.tup xs)), I1.laid (t' := tk) (fun b u e => Heap.get?_push_of_some _ e) (Nat.le_refl _) ?_, rfl, q _ _ hf rfl⟩
  exact ⟨Heap.get?_push_size _ rfl, hz, us, r, IsTup.new _ _⟩
/-- t + u -/
theorem op_catF : OpR X (binaryOp .Add) (fun x y H Q => ∃ a b xs ys, x = .ref a ∧ y = .ref b ∧ SqT X.K H a xs ∧ SqT X.K H b ys ∧ xs.length + ys.length ≤ sizeLine ∧ (xs = [] → Q (.ref b) H) ∧ (xs ≠ [] → ys = [] → Q (.ref a) H) ∧ (xs ≠ [] → ys ≠ [] → TupO H Q (xs ++ ys))) := by
  intro pins s σ H x y v u Q I rx ry h
  obtain ⟨a, b, xs, ys, rfl, rfl, ha, hb, hz, q0, q1, q2⟩ := h
  by_cases hx : xs = []
  · subst hx
    cases rx
    cases ry
    obtain ⟨its, r1, p1, _⟩ := I.tuple ha
    obtain ⟨its2, r2, p2, _⟩ := I.tuple hb
    cases r1
    exact cat_tup0 p1 p2 ⟨.ref b, H, I, rfl, q0 rfl⟩
  · cases rx
    cases ry
    obtain ⟨its, r1, p1, _⟩ := I.tuple ha
    obtain ⟨its2, r2, p2, _⟩ := I.tuple hb
    refine HT.cat_tup p1 p2 (fun z => hx (r1.nil_iff.mp z)) (fun z => ⟨.ref a, H, I, rfl, q1 hx (r2.nil_iff.mp z)⟩) (fun z => ?_) (by rw [← r1.length, ← r2.length]; exact hz)
    exact newTup (tk := s.toks) I (fun _ _ e => e) (r1.append r2) (by rw [List.length_append]; exact hz) (q2 hx fun w => z (r2.nil_iff.mpr w))
/-- t[lo:hi] -/
theorem sl_tupF : SlR X (fun x lo hi H Q => ∃ a xs, x = .ref a ∧ SqT X.K H a xs ∧ (HT.sIx xs.length 0 lo = 0 ∧ HT.sIx xs.length xs.length hi = xs.length → Q (.ref a) H) ∧ (¬ (HT.sIx xs.length 0 lo = 0 ∧ HT.sIx xs.length xs.length hi = xs.length) → TupO H Q (cutV xs lo hi))) := by
  intro pins s σ H x v vl vu lo hi sl Q I rx hs pl pu h
  obtain ⟨a, xs, rfl, hx, q1, q2⟩ := h
  cases rx
  obtain ⟨its, r, ht, hz⟩ := I.tuple hx
  have hlen : its.toArray.size = xs.length := by rw [List.size_toArray]; exact r.length.symm
  refine ⟨"tuple", _, PyProof.Rows.slot_tuple_getitem.lookup, ht.typeIs, ?_⟩
  by_cases hw : HT.sIx xs.length 0 lo = 0 ∧ HT.sIx xs.length xs.length hi = xs.length
  · exact getItem_tuple_whole ht hs pl pu (by rw [hlen]; exact hw) ⟨.ref a, H, I, rfl, q1 hw⟩
  · refine HT.getItem_tuple_cut ht hs pl pu (by rw [hlen]; exact hw) ?_ (by rw [hlen]; exact hz)
    rw [hlen]
    exact newTup (tk := s.toks) I (fun _ _ e => e) ((r.drop (HT.sIx xs.length 0 lo)).take (HT.sIx xs.length xs.length hi - HT.sIx xs.length 0 lo)) (Nat.le_trans (cutV_length xs lo hi) hz) (q2 hw)
theorem call_tupleF : CallR X (.type "tuple") (fun xs H Q => ∃ p ys, xs = [.ref p] ∧ ((SqL X.K H p ys ∧ TupO H Q ys) ∨ (SqT X.K H p ys ∧ Q (.ref p) H))) := by
  intro pins s σ H xs us Q I r h
  obtain ⟨p, ys, rfl, h⟩ := h
  obtain ⟨u, rfl, rx⟩ := vals1 r
  cases rx
  rcases h with ⟨hq, q⟩ | ⟨hq, q⟩
  · obtain ⟨its, r', pl, hz⟩ := I.list hq
    have hlen := r'.length
    exact call_tuple_list pl.isList (fun h' kp => newTup (tk := s.toks) I kp r' hz q) (by simp only [List.size_toArray] <;> omega)
  · obtain ⟨its, r', pl, hz⟩ := I.tuple hq
    exact call_tuple_same pl ⟨.ref p, H, I, rfl, q⟩
theorem pe_tupF {x1} {es : List Expr} {t : TA} {pos : Pos} (h : PA X es t) : PE X (.Tuple es x1 pos) (fun σ H Q => t σ H fun xs H1 => xs.length ≤ sizeLine ∧ TupO H1 Q xs) := by
  refine ⟨fun pins s σ H Q I hq => ?_⟩
  refine wpAny_Tuple_spliced (thn (h.run pos pins s σ H _ I hq) fun us s1 ⟨xs, H1, I1, r, z, q⟩ => ⟨by rw [← r.length]; exact z, ?_⟩)
  exact newTup (tk := s1.toks) I1 (fun _ _ e => e) r z q

theorem op_addD : OpR X (binaryOp .Add) (rD2 X.w (dOp .add)) := by
  intro pins s σ H x y v u Q I rx ry ⟨G, dx, dy, d, hx, hy, hd, q⟩
  unfold dOp at hd
  split at hd <;> try (cases hd; done)
  all_goals (rename_i h0; first | cases h0 | skip)
  · cases hd
    obtain rfl := hx.intE
    obtain rfl := hy.intE
    exact op_add pins s σ H _ _ v u Q I rx ry ⟨_, _, rfl, rfl, q _ _ (Same.refl H) (.int _)⟩
  · obtain rfl := hx.strE
    obtain rfl := hy.strE
    split at hd
    · cases hd
      exact op_add_str pins s σ H _ _ v u Q I rx ry ⟨_, _, rfl, rfl, by assumption, q _ _ (Same.refl H) (.str _)⟩
    · cases hd
  · obtain ⟨a, vs, rfl, _, e, r⟩ := hx.listE
    obtain ⟨b, us, rfl, _, e', r'⟩ := hy.listE
    split at hd
    · cases hd
      rename_i hz
      exact op_cat pins s σ H _ _ v u Q I rx ry ⟨_, _, _, _, rfl, rfl, e, e', by rw [r.length, r'.length]; exact hz, fun p hp => q _ _ (same_new hp) (Dat.newL hp (r.append r'))⟩
    · cases hd
  · obtain ⟨a, o, vs, rfl, e, nd, r⟩ := hx.tupE
    obtain ⟨b, o', us, rfl, e', nd', r'⟩ := hy.tupE
    split at hd
    · cases hd
      rename_i hz
      refine op_catF pins s σ H _ _ v u Q I rx ry ⟨_, _, _, _, rfl, rfl, SqT.fz e, SqT.fz e', by rw [r.length, r'.length]; exact hz, fun z => ?_, fun _ z => ?_, fun _ _ p o hp ho => q _ _ (same_new hp) (Dat.newT hp ho (r.append r'))⟩
      · subst z
        cases r
        exact q _ _ (Same.refl H) hy.weak
      · subst z
        cases r'
        rw [List.append_nil] at q
        exact q _ _ (Same.refl H) hx.weak
    · cases hd
theorem op_subD : OpR X (binaryOp .Sub) (rD2 X.w (dOp .sub)) := by
  intro pins s σ H x y v u Q I rx ry ⟨G, dx, dy, d, hx, hy, hd, q⟩
  unfold dOp at hd
  split at hd <;> try (cases hd; done)
  all_goals (rename_i h0; first | cases h0 | skip)
  · cases hd
    obtain rfl := hx.intE
    obtain rfl := hy.intE
    exact op_sub pins s σ H _ _ v u Q I rx ry ⟨_, _, rfl, rfl, q _ _ (Same.refl H) (.int _)⟩
theorem Dats.reps {w : World} {G : Addr → Prop} {H : Hp} {vs : List V} {ds : List D} (r : Dats w G H vs ds) : ∀ n, Dats w G H (List.replicate n vs).flatten (List.replicate n ds).flatten
  | 0 => .nil
  | n + 1 => by
    rw [List.replicate_succ, List.replicate_succ, List.flatten_cons, List.flatten_cons]
    exact r.append (Dats.reps r n)
theorem big200 : (2 : Nat) ^ 200 = 1606938044258990275541962092341162602522202993782792835301376 := by decide +kernel
theorem cdivW {i j : Int} (h : 0 < j) (h2 : j < 1606938044258990275541962092341162602522202993782792835301376) : CDivW i j := wide_div (b := 200) h (by have := big200; omega) (by decide) (by decide)
theorem cmulW {i j : Int} (h : i.natAbs < 1606938044258990275541962092341162602522202993782792835301376) (h2 : j.natAbs < 1606938044258990275541962092341162602522202993782792835301376) : CMulW i j := wide_mul (a := 200) (b := 200) (by have := big200; omega) (by have := big200; omega) (by decide) (by decide) (by decide)
theorem op_fdivD : OpR X (binaryOp .FloorDiv) (rD2 X.w (dOp .fdiv)) := by
  intro pins s σ H x y v u Q I rx ry ⟨G, dx, dy, d, hx, hy, hd, q⟩
  unfold dOp at hd
  split at hd <;> try (cases hd; done)
  all_goals (rename_i h0; first | cases h0 | skip)
  · obtain rfl := hx.intE
    obtain rfl := hy.intE
    split at hd
    · cases hd
      rename_i hc
      exact op_fdivW pins s σ H _ _ v u Q I rx ry ⟨_, _, rfl, rfl, cdivW hc.1 hc.2, q _ _ (Same.refl H) (.int _)⟩
    · cases hd
theorem op_modD : OpR X (binaryOp .Mod) (rD2 X.w (dOp .mod)) := by
  intro pins s σ H x y v u Q I rx ry ⟨G, dx, dy, d, hx, hy, hd, q⟩
  unfold dOp at hd
  split at hd <;> try (cases hd; done)
  all_goals (rename_i h0; first | cases h0 | skip)
  · obtain rfl := hx.intE
    obtain rfl := hy.intE
    split at hd
    · cases hd
      rename_i hc
      exact op_mod pins s σ H _ _ v u Q I rx ry ⟨_, _, rfl, rfl, hc, q _ _ (Same.refl H) (.int _)⟩
    · cases hd
theorem op_powD : OpR X (binaryOp .Pow) (rD2 X.w (dOp .pow)) := by
  intro pins s σ H x y v u Q I rx ry ⟨G, dx, dy, d, hx, hy, hd, q⟩
  unfold dOp at hd
  split at hd <;> try (cases hd; done)
  all_goals (rename_i h0; first | cases h0 | skip)
  · obtain rfl := hx.intE
    obtain rfl := hy.intE
    split at hd
    · cases hd
      rename_i hc
      exact op_pow pins s σ H _ _ v u Q I rx ry ⟨_, _, rfl, rfl, hc, q _ _ (Same.refl H) (.int _)⟩
    · cases hd
end
end Os
end
section
set_option linter.all false
set_option maxRecDepth 100000
set_option maxHeartbeats 4000000
/-! OsCd: dicts of data over the abstract heap, as the machine has them. -/
namespace Os
open PySem PySem.Spec PyProof.Rows L2

abbrev Es := List (NestedKey × V × V)
def esPut (es : Es) (k : NestedKey) (a b : V) : Es := match kIx (es.map (·.1)) k with
  | some i => es.modify i fun e => (e.1, e.2.1, b)
  | none => es ++ [(k, a, b)]
/-- the entries as the machine has them -/
structure EX (es : Es) (xs : List Ent) : Prop where
  ks : xs.map (·.1) = es.map (·.1)
  uk : Vals (es.map (·.2.1)) (xs.map (·.2.1))
  uv : Vals (es.map (·.2.2)) (xs.map (·.2.2))
theorem EX.length {es : Es} {xs : List Ent} (x : EX es xs) : xs.length = es.length := by simpa using congrArg List.length x.ks
theorem kIdx_eq {es : Es} {xs : List Ent} (x : EX es xs) (k : NestedKey) : kIdx xs k = kIx (es.map (·.1)) k := by
  unfold kIdx kIx
  rw [← x.ks, List.findIdx?_map]
  rfl
section
variable {P : Program} {w : World} {G : Addr → Prop} {H : Hp} {h : Heap} {a : Addr} {es : Es} {kvs : List (D × D)} {k : NestedKey}
theorem ex_of : ∀ {es : Es} {ds : List DictEntry}, Paired (fun (e : NestedKey × V × V) (d : DictEntry) => d.hash = e.1.hash w ∧ RelV e.2.1 d.key ∧ RelV e.2.2 d.val) es ds → ∃ xs : List Ent, ds = xs.map (entD w) ∧ EX es xs
  | _, _, .nil => ⟨[], rfl, rfl, .nil, .nil⟩
  | (k, a, b) :: _, d :: _, .cons ⟨r1, r2, r3⟩ t => by
    obtain ⟨xs, h1, h2⟩ := ex_of t
    refine ⟨(k, d.key, d.val) :: xs, ?_, ?_, .cons r2 h2.uk, .cons r3 h2.uv⟩
    · rw [List.map_cons, ← h1]
      unfold entD
      rw [← r1]
    · rw [List.map_cons, List.map_cons, h2.ks]
theorem ex_to : ∀ {es : Es} {xs : List Ent}, EX es xs → Paired (fun (e : NestedKey × V × V) (d : DictEntry) => d.hash = e.1.hash w ∧ RelV e.2.1 d.key ∧ RelV e.2.2 d.val) es (xs.map (entD w))
  | [], [], _ => .nil
  | [], _ :: _, x => by have := x.length; simp at this
  | _ :: _, [], x => by have := x.length; simp at this
  | (k, a, b) :: es, (k', u, v) :: xs, x => by
    obtain ⟨h1, h2, h3⟩ := x
    rw [List.map_cons, List.map_cons] at h1
    obtain ⟨rfl, h1'⟩ := List.cons.inj h1
    cases h2 with
    | cons r1 t1 =>
      cases h3 with
      | cons r2 t2 => exact .cons ⟨rfl, r1, r2⟩ (ex_to ⟨h1', t1, t2⟩)
theorem nested_mem {h : Heap} : ∀ {ks : List NestedKey} {us : List Value} {xs : List Ent}, NestedAll h ks us → xs.map (·.1) = ks → xs.map (·.2.1) = us → ∀ x ∈ xs, NestedIs h x.1 x.2.1
  | _, _, [], _, _, _, x, hx => (nomatch hx)
  | _, _, y :: ys, r, e1, e2, x, hx => by
    subst e1 e2
    cases r with
    | cons r1 r2 =>
      rcases List.mem_cons.mp hx with z | z
      · rw [z]
        exact r1
      · exact nested_mem r2 rfl rfl x z
/-- a dict of data, as the machine has it -/
theorem de_of (hok : HOk P w H h) (e : H a = some (dO w a es)) (d : DKV w G H es kvs) : ∃ xs, DE w h a xs ∧ EX es xs ∧ (a == sysModules) = false ∧ xs.length ≤ sizeLine := by
  obtain ⟨⟨h1, h2, o, ds, ep, eo, ed, dd, pr, nd, dp⟩, _, _⟩ := hok _ _ e
  obtain ⟨xs, q1, q2⟩ := ex_of pr
  have hn := Dats.nested hok d.ks q2.uk d.id
  refine ⟨xs, ⟨o, ds, ep, eo, ed, dd, q1, fun x hx => ⟨nested_mem hn q2.ks rfl x hx, ?_⟩, by rw [q2.ks]; exact nd⟩, q2, h1, by rw [q2.length]; exact h2⟩
  have hm : x.1 ∈ es.map (·.1) := by
    rw [← q2.ks]
    exact List.mem_map.mpr ⟨x, hx, rfl⟩
  obtain ⟨y, hy, ey⟩ := List.mem_map.mp hm
  rw [← ey]
  exact dp y hy
theorem dO_of {xs : List Ent} (x : DE w h a xs) (q : EX es xs) (hs : (a == sysModules) = false) (hz : es.length ≤ sizeLine) : ObjOk P w H h a (dO w a es) := by
  obtain ⟨o, ds, ep, ho, hc, hd, he⟩ := x
  refine ⟨⟨hs, hz, o, ds, ep, ho, hc, hd, by rw [he.eq]; exact ex_to q, by rw [← q.ks]; exact he.nd, fun y hy => ?_⟩, ⟨o, ho⟩, fun h1 h2 ⟨a1, a2, o1, d1, p1, b1, b2⟩ st => ⟨a1, a2, o1, d1, p1, st _ b1, b2⟩⟩
  have hm : y.1 ∈ xs.map (·.1) := by
    rw [q.ks]
    exact List.mem_map.mpr ⟨y, hy, rfl⟩
  obtain ⟨z, hz, ez⟩ := List.mem_map.mp hm
  rw [← ez]
  exact (he.is z hz).2
theorem kvIx_eq (d : DKV w G H es kvs) : kvIx kvs k = kIx (es.map (·.1)) k := by
  unfold kvIx
  rw [d.id]
  rfl
/-- what is found -/
theorem at_rel {xs : List Ent} (d : DKV w G H es kvs) (q : EX es xs) : (kvAt kvs k = none → eAt xs k = none) ∧ ∀ x, kvAt kvs k = some x → ∃ u v, eAt xs k = some u ∧ RelV v u ∧ Dat w G H v x := by
  unfold kvAt
  rw [eAt_idx, kIdx_eq q, kvIx_eq d]
  cases e : kIx (es.map (·.1)) k with
  | none => exact ⟨fun _ => rfl, fun x z => nomatch z⟩
  | some i =>
    have hl : i < es.length := by
      unfold kIx at e
      rw [List.findIdx?_eq_some_iff_getElem] at e
      simpa using e.1
    have l1 := d.vs.length
    rw [List.length_map, List.length_map] at l1
    refine ⟨fun z => ?_, fun x z => ?_⟩
    · have : i < kvs.length := by omega
      simp [this] at z
    · rw [Option.bind_some] at z
      have z' : (kvs.map (·.2))[i]? = some x := by rw [List.getElem?_map]; exact z
      obtain ⟨v, h1, h2⟩ := d.vs.get z'
      obtain ⟨u, h3, h4⟩ := q.uv.get h1
      refine ⟨u, v, ?_, h4, h2⟩
      rw [Option.bind_some, ← h3, List.getElem?_map]
theorem at_isSome {xs : List Ent} (d : DKV w G H es kvs) (q : EX es xs) : (eAt xs k).isSome = (kvAt kvs k).isSome := by
  obtain ⟨r1, r2⟩ := at_rel (k := k) d q
  cases e : kvAt kvs k with
  | none =>
    rw [r1 e]
    rfl
  | some z =>
    obtain ⟨u, v, h1, _⟩ := r2 z e
    rw [h1]
    rfl
theorem vals_modify {vs : List V} {us : List Value} {v : V} {u : Value} (r : Vals vs us) (rv : RelV v u) : ∀ i, Vals (vs.modify i fun _ => v) (us.modify i fun _ => u) := by
  induction r with
  | nil => intro i; simp; exact .nil
  | cons r1 r2 ih =>
    intro i
    cases i with
    | zero =>
      simp
      exact .cons rv r2
    | succ i =>
      simp
      exact .cons r1 (ih i)
theorem dats_modify {vs : List V} {ds : List D} {v : V} {d : D} (rv : Dat w G H v d) : ∀ {vs : List V} {ds : List D}, Dats w G H vs ds → ∀ i, Dats w G H (vs.modify i fun _ => v) (ds.modify i fun _ => d)
  | _, _, .nil, i => by simp; exact .nil
  | _, _, .cons r1 r2, 0 => by simp; exact .cons rv r2
  | _, _, .cons r1 r2, i + 1 => by simp; exact .cons r1 (dats_modify (vs := vs) (ds := ds) rv r2 i)
theorem keysOf_snoc : ∀ {ds : List D} {ks : List NestedKey} {d : D} {k : NestedKey}, keysOf ds = some ks → keyOf d = some k → keysOf (ds ++ [d]) = some (ks ++ [k])
  | [], _, _, _, h1, h2 => by
    cases h1
    simp [keysOf, h2]
  | x :: xs, _, _, _, h1, h2 => by
    rw [keysOf, Option.bind_eq_some_iff] at h1
    obtain ⟨k', e1, e2⟩ := h1
    obtain ⟨ks', e3, rfl⟩ := Option.map_eq_some_iff.mp e2
    rw [List.cons_append, keysOf, e1, Option.bind_some, keysOf_snoc e3 h2]
    rfl
theorem keyD_key {d : D} (h : keyD d = some k) : keyOf d = some k ∧ k.depth ≤ 8 := by
  unfold keyD at h
  obtain ⟨k', h1, h2⟩ := Option.bind_eq_some_iff.mp h
  split at h2
  · cases h2
    exact ⟨h1, by assumption⟩
  · cases h2
/-- behind a store -/
theorem map_keep {α β : Type} {g : α → β} {f : α → α} (e : ∀ x, g (f x) = g x) (l : List α) (i : Nat) : (l.modify i f).map g = l.map g := by
  rw [map_mod (h := id) e, modify_id]
theorem put_ex {xs : List Ent} {va vb : V} {ua ub : Value} (q : EX es xs) (ra : RelV va ua) (rb : RelV vb ub) : EX (esPut es k va vb) (ePut xs k ua ub) := by
  unfold esPut ePut
  rw [kIdx_eq q]
  cases kIx (es.map (·.1)) k with
  | none => exact ⟨by simp [q.ks], by simpa using q.uk.append (.cons ra .nil), by simpa using q.uv.append (.cons rb .nil)⟩
  | some i =>
    refine ⟨?_, ?_, ?_⟩
    · dsimp only
      rw [map_keep (g := fun x : Ent => x.1) (f := fun x : Ent => (x.1, x.2.1, ub)) (fun _ => rfl), map_keep (g := fun x : NestedKey × V × V => x.1) (f := fun e : NestedKey × V × V => (e.1, e.2.1, vb)) (fun _ => rfl), q.ks]
    · dsimp only
      rw [map_keep (g := fun x : Ent => x.2.1) (f := fun x : Ent => (x.1, x.2.1, ub)) (fun _ => rfl), map_keep (g := fun x : NestedKey × V × V => x.2.1) (f := fun e : NestedKey × V × V => (e.1, e.2.1, vb)) (fun _ => rfl)]
      exact q.uk
    · dsimp only
      rw [map_mod (h := fun _ => ub) (g := fun x : Ent => x.2.2) (f := fun x : Ent => (x.1, x.2.1, ub)) (fun _ => rfl), map_mod (h := fun _ => vb) (g := fun x : NestedKey × V × V => x.2.2) (f := fun e : NestedKey × V × V => (e.1, e.2.1, vb)) (fun _ => rfl)]
      exact vals_modify q.uv rb i
theorem put_dkv {va vb : V} {kd vd : D} (d : DKV w G H es kvs) (hk : keyOf kd = some k) (ra : Dat w G H va kd) (rb : Dat w G H vb vd) : DKV w G H (esPut es k va vb) (kvPut kvs k kd vd) := by
  unfold esPut kvPut
  rw [kvIx_eq d]
  cases kIx (es.map (·.1)) k with
  | none => exact ⟨by simpa using d.ks.append (.cons ra .nil), by simpa using d.vs.append (.cons rb .nil), by simpa using keysOf_snoc d.id hk⟩
  | some i =>
    refine ⟨?_, ?_, ?_⟩
    · dsimp only
      rw [map_keep (g := fun x : D × D => x.1) (f := fun p : D × D => (p.1, vd)) (fun _ => rfl), map_keep (g := fun x : NestedKey × V × V => x.2.1) (f := fun e : NestedKey × V × V => (e.1, e.2.1, vb)) (fun _ => rfl)]
      exact d.ks
    · dsimp only
      rw [map_mod (h := fun _ => vd) (g := fun x : D × D => x.2) (f := fun p : D × D => (p.1, vd)) (fun _ => rfl), map_mod (h := fun _ => vb) (g := fun x : NestedKey × V × V => x.2.2) (f := fun e : NestedKey × V × V => (e.1, e.2.1, vb)) (fun _ => rfl)]
      exact dats_modify (vs := []) (ds := []) rb d.vs i
    · dsimp only
      rw [map_keep (g := fun x : D × D => x.1) (f := fun p : D × D => (p.1, vd)) (fun _ => rfl), map_keep (g := fun x : NestedKey × V × V => x.1) (f := fun e : NestedKey × V × V => (e.1, e.2.1, vb)) (fun _ => rfl)]
      exact d.id
theorem esPut_length (es : Es) (k : NestedKey) (a b : V) : (esPut es k a b).length ≤ es.length + 1 := by
  unfold esPut
  split
  · rw [List.length_modify]
    omega
  · rw [List.length_append, List.length_singleton]
    omega
end
end Os
end
section
set_option linter.all false
set_option maxRecDepth 100000
set_option maxHeartbeats 4000000
/-! OyF: two dicts of whole numbers, the same keys one by one. -/
namespace Os
open PySem PySem.Spec PySem.SeqAt PyProof.Rows

section
variable {prog : Program} {w : World} {A : Around} {E : Value → Shared → Prop} {s : Shared}
/-- the same keys, the same whole numbers -/
def NumEq (xs ys : List Ent) : Prop := xs.map (·.1) = ys.map (·.1) ∧ ∀ (i : Nat) (x y : Ent), xs[i]? = some x → ys[i]? = some y → ∃ n t t', x.2.2 = .int n t ∧ y.2.2 = .int n t'
theorem NumEq.len {xs ys : List Ent} (q : NumEq xs ys) : xs.length = ys.length := by simpa using congrArg List.length q.1
theorem d_pairs {nm : String} {a b : Addr} {xs ys : List Ent} {Q : Bool → Shared → Prop} (hu : A.units + 8 < cLine) (ha : (a == sysModules) = false) (hb : (b == sysModules) = false) (x : DE w s.heap a xs) (y : DE w s.heap b ys) (q : NumEq xs ys) (h : Q true s) : wpAny (model prog w) A (Builtin.Dict.samePairs nm a b) Q E s := by
  obtain ⟨o, es, ep, p1, p2, p3, p4⟩ := x
  obtain ⟨o2, fs, eq2, r1, r2, r3, r4⟩ := y
  have l1 := p4.size
  have l2 := r4.size
  have l3 := q.len
  unfold Builtin.Dict.samePairs Builtin.Dict.showsAll
  rw [if_neg (by rw [ha]; exact Bool.false_ne_true), if_neg (by rw [hb]; exact Bool.false_ne_true)]
  refine wpAny_bind (wpAny_pure (wpAny_bind (wpAny_pure (wpAny_bind (wpAny_dictEntries p1 p3 ?_)))))
  dsimp only
  refine wpAny_bind (wpAny_dictEntries r1 r3 ?_)
  rw [if_neg (by simp [l1, l2, l3])]
  refine wpAny_bind (wpAny_dictEpoch p1 p3 (wpAny_bind ?_))
  rw [Std.Legacy.Range.forIn_eq_forIn_range']
  simp only [Std.Legacy.Range.size, Nat.sub_zero, Nat.add_sub_cancel, Nat.div_one]
  refine wpAny_forIn_list _ (fun l z t => t = s ∧ z = (none, ()) ∧ ∃ i, i ≤ es.size ∧ l = List.range' i (es.size - i)) _ (fun j l z t ⟨e1, e2, i, hi, e3⟩ => ?_) (fun z t ⟨e1, e2, _⟩ => ?_) _ _ ⟨rfl, rfl, 0, Nat.zero_le _, rfl⟩
  · subst e1 e2
    have hlt : i < es.size := by
      rcases Nat.lt_or_ge i es.size with c | c
      · exact c
      · rw [Nat.sub_eq_zero_of_le c] at e3
        cases e3
    rw [show es.size - i = es.size - (i + 1) + 1 by omega, List.range'_succ] at e3
    obtain ⟨rfl, e4⟩ := List.cons.inj e3
    have hx : j < xs.length := by omega
    have hy : j < ys.length := by omega
    have gx := List.getElem?_eq_getElem hx
    have gy := List.getElem?_eq_getElem hy
    have ex : es[j]? = some (entD w xs[j]) := by rw [p4.at j, gx]; rfl
    have ey : fs[j]? = some (entD w ys[j]) := by rw [r4.at j, gy]; rfl
    have ke : xs[j].1 = ys[j].1 := by
      have z := congrArg (fun l : List NestedKey => l[j]?) q.1
      simpa [gx, gy] using z
    obtain ⟨n, t1, t2, v1, v2⟩ := q.2 j _ _ gx gy
    obtain ⟨n1, n2⟩ := p4.is _ (List.mem_of_getElem? gx)
    refine wpAny_bind (wpAny_dictEntries p1 p3 ?_)
    rw [ex]
    show wpAny _ _ (holding [xs[j].2.1, xs[j].2.2] _ >>= _) _ _ _
    refine wpAny_bind (wpAny_holding (wpAny_bind (find_by hu n1 n2 r1 r3 r4 ?_)))
    have fi : kIdx ys xs[j].1 = some j := kIdx_get r4.nd (p := ys[j].2) (by rw [gy, ke])
    rw [fi]
    refine wpAny_bind (wpAny_dictEntries r1 r3 ?_)
    rw [ey]
    show wpAny _ _ (holding [ys[j].2.2] (eqBool xs[j].2.2 ys[j].2.2)) _ _ _
    rw [v1, v2]
    refine wpAny_holding (wpAny_eqBool_int ?_)
    rw [beq_self_eq_true]
    show wpAny _ _ (if (!true) = true then _ else _) _ _ _
    rw [if_neg (by decide)]
    refine wpAny_bind (wpAny_dictEpoch p1 p3 ?_)
    rw [if_neg (by simp)]
    exact wpAny_pure ⟨rfl, rfl, j + 1, hlt, e4⟩
  · subst e1 e2
    exact wpAny_pure h
theorem d_equal {a b : Addr} {xs ys : List Ent} {Q : Value → Shared → Prop} (hu : A.units + 9 < cLine) (ha : (a == sysModules) = false) (hb : (b == sysModules) = false) (x : DE w s.heap a xs) (y : DE w s.heap b ys) (q : NumEq xs ys) (h : Q (.bool true) s) : wpAny (model prog w) A (compareOp .Eq (.ref a) (.ref b)) Q E s := by
  refine wpAny_richCompare_same_room (op := .Eq) x.type y.type PySem.F.slot_dict_eq ?_ (by omega)
  refine wpAny_call_entry PySem.F.slot_dict_eq x.type PySem.F.entry_dict_eq ?_ (PySem.F.args_dict_eq_2 _ _)
  show wpAny _ _ (Builtin.Dict.dictSlotArgs "__eq__" _ >>= _) _ _ _
  unfold Builtin.Dict.dictSlotArgs
  refine wpAny_bind (wpAny_bind (wpAny_notOrdered_dict x.type (wpAny_pure ?_)))
  refine wpAny_bind (wpAny_isInstance (T := "dict") y.type PySem.F.sub_dict_dict ?_)
  simp only [Bool.not_true, Bool.false_eq_true, if_false]
  refine wpAny_bind (wpAny_pure (wpAny_bind (wpAny_pure (wpAny_bind (d_pairs (by show A.units + 1 + 8 < cLine; omega) ha hb x y q (wpAny_pure ⟨_, rfl, nofun, ?_⟩))))))
  exact h
theorem d_unequal {a b : Addr} {xs ys : List Ent} {Q : Value → Shared → Prop} (hu : A.units + 9 < cLine) (ha : (a == sysModules) = false) (hb : (b == sysModules) = false) (x : DE w s.heap a xs) (y : DE w s.heap b ys) (q : NumEq xs ys) (h : Q (.bool false) s) : wpAny (model prog w) A (compareOp .NotEq (.ref a) (.ref b)) Q E s := by
  refine wpAny_richCompare_same_room (op := .NotEq) x.type y.type PySem.F.slot_dict_ne ?_ (by omega)
  refine wpAny_call_entry PySem.F.slot_dict_ne x.type PySem.F.entry_dict_ne ?_ (PySem.F.args_dict_ne_2 _ _)
  show wpAny _ _ (Builtin.Dict.dictSlotArgs "__ne__" _ >>= _) _ _ _
  unfold Builtin.Dict.dictSlotArgs
  refine wpAny_bind (wpAny_bind (wpAny_notOrdered_dict x.type (wpAny_pure ?_)))
  refine wpAny_bind (wpAny_isInstance (T := "dict") y.type PySem.F.sub_dict_dict ?_)
  simp only [Bool.not_true, Bool.false_eq_true, if_false]
  refine wpAny_bind (wpAny_pure (wpAny_bind (wpAny_pure (wpAny_bind (d_pairs (by show A.units + 1 + 8 < cLine; omega) ha hb x y q (wpAny_pure ⟨_, rfl, nofun, ?_⟩))))))
  exact h
end
open L2
theorem same_keys : ∀ {a b : List (D × D)}, numsSame a b = true → ∃ ks, keysOf (a.map (·.1)) = some ks ∧ keysOf (b.map (·.1)) = some ks
  | [], [], _ => ⟨[], rfl, rfl⟩
  | (k, .int n) :: r, (k', .int n') :: t, h => by
    simp only [numsSame, Bool.and_eq_true, decide_eq_true_eq] at h
    obtain ⟨⟨⟨_, h2⟩, h3⟩, h4⟩ := h
    obtain ⟨ks, e1, e2⟩ := same_keys h4
    obtain ⟨x, hx⟩ := Option.isSome_iff_exists.mp h2
    have y1 := (keyD_key hx).1
    have y2 := (keyD_key (h3 ▸ hx)).1
    refine ⟨x :: ks, ?_, ?_⟩
    · rw [List.map_cons, keysOf, y1, Option.bind_some, e1]
      rfl
    · rw [List.map_cons, keysOf, y2, Option.bind_some, e2]
      rfl
theorem same_nums {w : World} {G G' : Addr → Prop} {H : Hp} : ∀ {a b : List (D × D)} {vs us : List V} {xs ys : List Value}, numsSame a b = true → Dats w G H vs (a.map (·.2)) → Dats w G' H us (b.map (·.2)) → Vals vs xs → Vals us ys → ∀ (i : Nat) (x y : Value), xs[i]? = some x → ys[i]? = some y → ∃ n t t', x = .int n t ∧ y = .int n t'
  | [], [], _, _, _, _, _, r1, r2, q1, q2, i, x, y, e1, e2 => by
    cases r1
    cases q1
    simp at e1
  | (k, .int n) :: r, (k', .int n') :: t, _, _, _, _, h, r1, r2, q1, q2, i, x, y, e1, e2 => by
    simp only [numsSame, Bool.and_eq_true, decide_eq_true_eq] at h
    obtain ⟨⟨⟨rfl, _⟩, _⟩, h4⟩ := h
    cases r1 with
    | cons a1 a2 =>
      cases r2 with
      | cons b1 b2 =>
        cases q1 with
        | cons c1 c2 =>
          cases q2 with
          | cons d1 d2 =>
            cases i with
            | zero =>
              cases e1
              cases e2
              cases a1
              cases b1
              obtain ⟨t1, rfl⟩ := c1
              obtain ⟨t2, rfl⟩ := d1
              exact ⟨n, t1, t2, rfl, rfl⟩
            | succ i => exact same_nums h4 a2 b2 c2 d2 i x y (by simpa using e1) (by simpa using e2)
theorem num_eq {w : World} {G G' : Addr → Prop} {H : Hp} {es fs : Es} {xs ys : List Ent} {a b : List (D × D)} (h : numsSame a b = true) (r1 : DKV w G H es a) (r2 : DKV w G' H fs b) (x : EX es xs) (y : EX fs ys) : NumEq xs ys := by
  obtain ⟨ks, e1, e2⟩ := same_keys h
  refine ⟨?_, fun i p q hp hq => ?_⟩
  · rw [x.ks, y.ks]
    have z1 := r1.id.symm.trans e1
    have z2 := r2.id.symm.trans e2
    rw [Option.some.inj z1, Option.some.inj z2]
  · exact same_nums h r1.vs r2.vs x.uv y.uv i _ _ (by rw [List.getElem?_map, hp]; rfl) (by rw [List.getElem?_map, hq]; rfl)
end Os
end
section
set_option linter.all false
set_option maxRecDepth 100000
set_option maxHeartbeats 4000000
/-! OyJ: products: of numbers, of a list, a tuple, a text with a number. -/
namespace L2
open PySem PySem.Spec PyProof.Rows
theorem tuple_mul_same (l : Addr) (items : Array Value) (n : Nat) (dd : Option Addr) (sl : Array (Option Value)) (x : Int) (u : Tok) (c0 : (decide (x < -(2 ^ 63)) || decide (x ≥ 2 ^ 63)) = false) (c1 : (items.isEmpty || x == 1) = true) :
    Meets (Builtin.«tuple.__mul__» ⟨[.ref l, .int x u], []⟩) (fun _ R s => s.heap.get? l = some { cls := .type "tuple", dict := dd, data := .seq items n, slots := sl } ∧ R (.ok (.ret (Value.ref l))) s) :=
  .of_wp fun prog w A R s h => by
    obtain ⟨hp, g, d, tk, os⟩ := s
    obtain ⟨hl, h⟩ := h
    have f1 := AutoSeq1.idx_int
    wp_walk using wpAny_loadPart' hl
    repeat (first
      | (refine wpAny_ite_false (decide_eq_false (by rw [c0]; exact Bool.false_ne_true)) ?_; wp_walk using wpAny_loadPart' hl)
      | (refine wpAny_ite_true (decide_eq_true c1) ?_; wp_walk using wpAny_loadPart' hl))
    exact ⟨_, rfl, h⟩
theorem tuple_mul_none (l : Addr) (items : Array Value) (n : Nat) (dd : Option Addr) (sl : Array (Option Value)) (x : Int) (u : Tok) (c0 : (decide (x < -(2 ^ 63)) || decide (x ≥ 2 ^ 63)) = false) (c1 : (items.isEmpty || x == 1) = false) (c2 : (decide (x ≤ 0) || items.isEmpty) = true) :
    Meets (Builtin.«tuple.__mul__» ⟨[.ref l, .int x u], []⟩) (fun _ R s => s.heap.get? l = some { cls := .type "tuple", dict := dd, data := .seq items n, slots := sl } ∧ R (.ok (.ret (Value.ref s.heap.objs.size))) { s with heap := s.heap.push { cls := Value.type "tuple", data := Data.seq #[] }, toks := s.toks }) :=
  .of_wp fun prog w A R s h => by
    obtain ⟨hp, g, d, tk, os⟩ := s
    obtain ⟨hl, h⟩ := h
    have f1 := AutoSeq1.idx_int
    wp_walk using wpAny_loadPart' hl
    repeat (first
      | (refine wpAny_ite_false (decide_eq_false (by rw [c0]; exact Bool.false_ne_true)) ?_; wp_walk using wpAny_loadPart' hl)
      | (refine wpAny_ite_false (decide_eq_false (by rw [c1]; exact Bool.false_ne_true)) ?_; wp_walk using wpAny_loadPart' hl)
      | (refine wpAny_ite_true (decide_eq_true c2) ?_; wp_walk using wpAny_loadPart' hl))
    exact ⟨_, rfl, h⟩
end L2
namespace Os
open PySem PySem.Spec PyProof.Rows L2
section
variable {X : Cx}
theorem op_repF : OpR X (binaryOp .Mult) (fun x y H Q => ∃ l k xs, x = .ref l ∧ y = .int k ∧ SqT X.K H l xs ∧ xs ≠ [] ∧ 0 ≤ k ∧ k ≤ 1000 ∧ xs.length ≤ 1000 ∧ (k = 1 → Q (.ref l) H) ∧ (k ≠ 1 → TupO H Q (List.replicate k.toNat xs).flatten)) := by
  intro pins s σ H x y v u Q I rx ry h
  obtain ⟨l, k, xs, rfl, rfl, hT, hne, h1, h2, hz, q1, q2⟩ := h
  cases rx
  obtain ⟨t, rfl⟩ := ry
  obtain ⟨its, r, ⟨⟨cls, dd, data, sl⟩, ho, hc, n, hd⟩, hs⟩ := I.tuple hT
  simp only at hc hd
  subst hc hd
  have hle : its.length = xs.length := r.length.symm
  have hn : its ≠ [] := fun e => hne (by
    rw [e] at hle
    exact List.eq_nil_of_length_eq_zero hle.symm)
  have hi : its.toArray.isEmpty = false := by
    cases its with
    | nil => exact absurd rfl hn
    | cons a b => rfl
  have hsz0 : its.toArray.size = xs.length := by rw [List.size_toArray, hle]
  have hm : ((its.toArray.size : Nat) : Int) * k ≤ 1000000 := by
    rw [hsz0]
    have a1 : ((xs.length : Nat) : Int) * k ≤ 1000 * k := Int.mul_le_mul_of_nonneg_right (by omega) (by omega)
    omega
  have flen : (List.replicate k.toNat its).flatten.length ≤ sizeLine := by
    rw [PyProof.Rows.lm_len_rep_flat, hle, sizeLine_eq]
    have a1 : k.toNat * xs.length ≤ 1000 * 1000 := Nat.mul_le_mul (by omega) hz
    omega
  have flen' : (List.replicate k.toNat xs).flatten.length ≤ sizeLine := by
    rw [PyProof.Rows.lm_len_rep_flat, sizeLine_eq]
    have a1 : k.toNat * xs.length ≤ 1000 * 1000 := Nat.mul_le_mul (by omega) hz
    omega
  have c0 : (decide (k < -(2 ^ 63)) || decide (k ≥ 2 ^ 63)) = false := by
    rw [decide_eq_false (by omega), decide_eq_false (by omega)] <;> rfl
  have c4 : Builtin.Tuple.tupleTooMany (((its.toArray.size : Nat) : Int) * k) = false := by
    unfold Builtin.Tuple.tupleTooMany
    rw [sizeLine_eq]
    exact decide_eq_false (by omega)
  refine wpAny_binaryOp_repeat_ref (T := "tuple") (U := "int") (by decide) ⟨_, ho, rfl⟩ (fun s' => typeIs_int s' k t) noFill_tuple_mul F.fills_int_mul F.slot_int_rmul repeat_tuple F.slot_int_index.lookup
    (call_meets F.slot_int_rmul (typeIs_int s k t) F.entry_int_rmul (F.args_int_rmul_2 _ _) (int_rmul_tuple k t l its.toArray n dd sl)
      ⟨ho, rfl, ⟨_, ho, rfl⟩, ?_⟩)
  by_cases k1 : k = 1
  · subst k1
    refine call_meets F.slot_tuple_mul ⟨_, ho, rfl⟩ F.entry_tuple_mul (F.args_tuple_mul_2 _ _) (tuple_mul_same l its.toArray n dd sl 1 t c0 (by rw [hi]; rfl)) ⟨ho, ?_⟩
    exact ⟨.ref l, H, I, rfl, q1 rfl⟩
  have c1 : (its.toArray.isEmpty || k == 1) = false := by
    rw [hi, Bool.false_or]
    exact beq_eq_false_iff_ne.mpr k1
  have qn := newTup (tk := s.toks) I (fun _ _ e => e) (r.rep k.toNat) flen' (q2 k1)
  by_cases k0 : k = 0
  · subst k0
    refine call_meets F.slot_tuple_mul ⟨_, ho, rfl⟩ F.entry_tuple_mul (F.args_tuple_mul_2 _ _) (tuple_mul_none l its.toArray n dd sl 0 t c0 c1 (by rw [hi]; rfl)) ⟨ho, ?_⟩
    exact qn
  · have c2 : (decide (k ≤ 0) || its.toArray.isEmpty) = false := by
      rw [hi, Bool.or_false]
      exact decide_eq_false (by omega)
    refine call_meets F.slot_tuple_mul ⟨_, ho, rfl⟩ F.entry_tuple_mul (F.args_tuple_mul_2 _ _) (tuple_mulW l its.toArray n dd sl k t c0 c1 c2 (by omega) c4 (by rw [size_rep, List.size_toArray]; exact flen)) ⟨ho, ?_⟩
    rw [size_rep]
    exact qn
theorem fold_size (c : Array Nat) : ∀ (n : Nat) (a : Array Nat), ((List.replicate n c).foldl (fun x1 x2 => x1 ++ x2) a).size = a.size + n * c.size
  | 0, a => by simp
  | n + 1, a => by
    rw [List.replicate_succ, List.foldl_cons, fold_size c n, Array.size_append, Nat.add_mul]
    omega
theorem op_repS : OpR X (binaryOp .Mult) (fun x y H Q => ∃ (z : Str) (k : Int), x = .str z ∧ y = .int k ∧ 0 < z.length ∧ z.length ≤ 1000 ∧ 2 ≤ k ∧ k ≤ 1000 ∧ Q (.str ⟨(List.replicate k.toNat z.cps).foldl (· ++ ·) #[]⟩) H) := by
  intro pins s σ H x y v u Q I rx ry h
  obtain ⟨z, k, rfl, rfl, h1, h2, h3, h4, q⟩ := h
  obtain ⟨t, rfl⟩ := rx
  obtain ⟨t', rfl⟩ := ry
  have c0 : (decide (k < -(2 ^ 63)) || decide (k ≥ 2 ^ 63)) = false := by
    rw [decide_eq_false (by omega), decide_eq_false (by omega)] <;> rfl
  have c1 : (k == 1 || z.length == 0) = false := by
    rw [beq_eq_false_iff_ne.mpr (by omega), beq_eq_false_iff_ne.mpr (by omega)]
    rfl
  refine PySem.P.mul_str c0 (fun _ _ => ?_) (fun _ _ => ?_) ?_
  · have : (1000 : Int) ≤ (2 ^ 63 - 1) / k := by
      refine (Int.le_ediv_iff_mul_le (by omega)).mpr ?_
      omega
    omega
  · have : z.length * k.toNat ≤ 1000 * 1000 := Nat.mul_le_mul h2 (by omega)
    refine decide_eq_false ?_
    rw [sizeLine_eq]
    omega
  · rw [if_neg (by omega), c1]
    refine ⟨?_, .str _, H, I.tok _, ⟨_, rfl⟩, q⟩
    show (Array.size _) ≤ sizeLine
    rw [fold_size, sizeLine_eq]
    have : k.toNat * z.cps.size ≤ 1000 * 1000 := Nat.mul_le_mul (by omega) h2
    simp
    omega
theorem op_mulD : OpR X (binaryOp .Mult) (rD2 X.w (dOp .mul)) := by
  intro pins s σ H x y v u Q I rx ry ⟨G, dx, dy, d, hx, hy, hd, q⟩
  unfold dOp at hd
  split at hd <;> try (cases hd; done)
  all_goals (rename_i h0; first | cases h0 | skip)
  · obtain rfl := hx.intE
    obtain rfl := hy.intE
    split at hd
    · cases hd
      rename_i hc
      rcases hc with hc | hc | hc
      · exact op_mul pins s σ H _ _ v u Q I rx ry ⟨_, _, rfl, rfl, .inl hc, q _ _ (Same.refl H) (.int _)⟩
      · exact op_mul pins s σ H _ _ v u Q I rx ry ⟨_, _, rfl, rfl, .inr hc, q _ _ (Same.refl H) (.int _)⟩
      · exact op_mulW pins s σ H _ _ v u Q I rx ry ⟨_, _, rfl, rfl, cmulW hc.1 hc.2, q _ _ (Same.refl H) (.int _)⟩
    · cases hd
  · obtain ⟨a, vs, rfl, _, e, r⟩ := hx.listE
    obtain rfl := hy.intE
    split at hd
    · cases hd
      rename_i hz
      exact op_rep pins s σ H _ _ v u Q I rx ry ⟨_, _, _, rfl, rfl, e, by omega, by omega, by rw [r.length]; exact hz.2.1, fun p hp => q _ _ (same_new hp) (Dat.newL hp (r.reps _))⟩
    · cases hd
  · obtain ⟨a, o, vs, rfl, e, nd, r⟩ := hx.tupE
    obtain rfl := hy.intE
    split at hd
    · cases hd
      rename_i hz
      refine op_repF pins s σ H _ _ v u Q I rx ry ⟨_, _, _, rfl, rfl, SqT.fz e, fun z => ?_, hz.2.1, hz.2.2.1, by rw [r.length]; exact hz.2.2.2, fun k1 => ?_, fun _ p o hp ho => q _ _ (same_new hp) (Dat.newT hp ho (r.reps _))⟩
      · subst z
        cases r
        exact hz.1 rfl
      · subst k1
        refine q _ _ (Same.refl H) ?_
        simp
        exact hx.weak
    · cases hd
  · obtain rfl := hx.strE
    obtain rfl := hy.intE
    split at hd
    · cases hd
      rename_i hz
      exact op_repS pins s σ H _ _ v u Q I rx ry ⟨_, _, rfl, rfl, hz.1, hz.2.1, hz.2.2.1, hz.2.2.2, q _ _ (Same.refl H) (.str _)⟩
    · cases hd
end
end Os
end
section
set_option linter.all false
set_option maxRecDepth 100000
set_option maxHeartbeats 4000000
/-! OyI: a dict against a text; a pair whose first holds a dict, among pairs whose firsts hold texts. -/
namespace Os
open PySem PySem.Spec PySem.SeqAt PyProof.Rows L2

section
variable {prog : Program} {w : World} {A : Around} {E : Value → Shared → Prop} {s : Shared}
theorem str_eq_declines_dict (b : Str) (u : Tok) (l : Addr) (o : Obj) : Meets (Builtin.«str.__eq__» ⟨[.str b u, .ref l], []⟩) (fun _ R s => s.heap.get? l = some o ∧ o.cls = .type "dict" ∧ (∃ ds ep, o.data = .dict ds ep) ∧ R (.ok (.ret .notImplemented)) s) :=
  .of_wp fun prog w A R s h => by
    obtain ⟨hp, g, d, tk, os⟩ := s
    obtain ⟨hl, hc, ⟨ds, ep, hd⟩, h⟩ := h
    obtain ⟨cls, dd, data, sl⟩ := o
    simp only at hc hd
    subst hc hd
    have f1 := PySem.F.sub_dict_str
    wp_walk using wpAny_loadPart' hl, wpAny_load hl
    exact ⟨_, rfl, h⟩
theorem dict_declines_str {l : Addr} {o : Obj} {b : Str} {u : Tok} {Q : Value → Shared → Prop} (ho : s.heap.get? l = some o) (hx : o.cls = .type "dict") (hy : ∃ ds ep, o.data = .dict ds ep) (h : Q .notImplemented s) :
    wpAny (model prog w) A (call (.builtin "dict.__eq__") [.ref l, .str b u]) Q E s := by
  have ht : s.TypeIs (.ref l) "dict" := ⟨_, ho, hx⟩
  refine wpAny_call_entry PySem.F.slot_dict_eq ht PySem.F.entry_dict_eq ?_ (PySem.F.args_dict_eq_2 _ _)
  show wpAny _ _ (Builtin.Dict.dictSlotArgs "__eq__" ⟨[.ref l, .str b u], []⟩ >>= _) _ _ s
  refine wpAny_bind ?_
  unfold Builtin.Dict.dictSlotArgs
  refine wpAny_bind (wpAny_notOrdered_dict ht ?_)
  show wpAny _ _ (pure (Value.ref l, Value.str b u)) _ _ s
  refine wpAny_pure ?_
  refine wpAny_bind (wpAny_isInstance (T := "str") (typeIs_str s b u) PySem.F.sub_str_dict ?_)
  simp only [Bool.not_false, if_true]
  refine wpAny_bind (wpAny_rule (wpAny_bind (wpAny_pure ?_)))
  exact wpAny_pure ⟨_, rfl, h⟩
theorem rc_str_dict {l : Addr} {o : Obj} (b : Str) (u : Tok) (ho : s.heap.get? l = some o) (hx : o.cls = .type "dict") (hy : ∃ ds ep, o.data = .dict ds ep) (hu : A.units < cLine) : RcAt A s (.str b u) (.ref l) false := fun prog w E Q h =>
  rc_eq_decline_or (k := false) (typeIs_str s b u) ⟨_, ho, hx⟩ (by decide) PySem.F.sub_dict_str PySem.F.slot_str_eq PySem.F.slot_dict_eq_refl
    (fun _ hq => call_meets PySem.F.slot_str_eq (typeIs_str s b u) PySem.F.entry_str_eq (PySem.F.args_str_eq_2 _ _) (str_eq_declines_dict b u l o) ⟨ho, hx, hy, hq⟩)
    (fun _ hq => dict_declines_str ho hx hy hq)
    (fun _ hq => wpAny_of_eq (rfl : isSame (.str b u) (.ref l) = pure false) hq) (.inr hu) h
theorem eq_str_dict {l : Addr} {o : Obj} (b : Str) (u : Tok) (ho : s.heap.get? l = some o) (hx : o.cls = .type "dict") (hy : ∃ ds ep, o.data = .dict ds ep) (hu : A.units < cLine) : EqAt A s (.str b u) (.ref l) false := fun prog w E Q h => by
  unfold eqBool
  refine wpAny_holding ?_
  refine wpAny_ite_split (fun hab => absurd (eq_of_beq hab) nofun) (fun _ => ?_)
  exact wpAny_bind (rc_str_dict b u ho hx hy hu prog w E _ (wpAny_truthy_bool h))
theorem rd_tuple {h : Heap} {v : Value} {as : List Addr} {xs : List PyData} (r : Reads h v (.tuple xs) as) : ∃ l o vs n bs, v = .ref l ∧ h.get? l = some o ∧ o.cls = .type "tuple" ∧ o.data = .seq vs n ∧ ReadsAll h vs.toList xs bs := by
  cases r with
  | tuple h1 h2 h3 h4 => exact ⟨_, _, _, _, _, rfl, h1, h2, h3, h4⟩
theorem ra1 {h : Heap} {vs : Array Value} {x : PyData} {as : List Addr} (r : ReadsAll h vs.toList [x] as) : ∃ v bs, vs = #[v] ∧ Reads h v x bs := by
  obtain ⟨l⟩ := vs
  cases r with
  | cons a b =>
    cases b
    exact ⟨_, _, rfl, a⟩
theorem ra2 {h : Heap} {vs : Array Value} {x y : PyData} {as : List Addr} (r : ReadsAll h vs.toList [x, y] as) : ∃ v u bs cs, vs = #[v, u] ∧ Reads h v x bs ∧ Reads h u y cs := by
  obtain ⟨l⟩ := vs
  cases r with
  | cons a b =>
    cases b with
    | cons b c =>
      cases c
      exact ⟨_, _, _, _, rfl, a, b⟩
theorem form_head {f x : Value} {df : PyData} {as bs : List Addr} {kvs : List (PyData × PyData)} {m : Int} (hf : isForm df = true) (rf : Reads s.heap f df as) (rx : Reads s.heap x (.tuple [.tuple [.dict kvs], .int m]) bs) (hu : A.units + 4 < cLine) :
    EqAt A s f x false := by
  unfold isForm at hf
  split at hf
  case h_2 => cases hf
  rename_i z n
  obtain ⟨l, o, vs, q, cs, rfl, ho, hc, hd, r1⟩ := rd_tuple rf
  obtain ⟨l', o', vs', q', cs', rfl, ho', hc', hd', r1'⟩ := rd_tuple rx
  obtain ⟨a, b, _, _, rfl, ra, rb⟩ := ra2 r1
  obtain ⟨a', b', _, _, rfl, ra', rb'⟩ := ra2 r1'
  obtain ⟨k, p, ws, t, _, rfl, hp, hpc, hpd, r2⟩ := rd_tuple ra
  obtain ⟨k', p', ws', t', _, rfl, hp', hpc', hpd', r2'⟩ := rd_tuple ra'
  obtain ⟨c, _, rfl, rc⟩ := ra1 r2
  obtain ⟨c', _, rfl, rc'⟩ := ra1 r2'
  have e1 : EqAt A.in1.in1 s c c' false := by
    cases rc with
    | str _ t =>
      cases rc' with
      | dict g1 g2 g3 g4 g5 => exact eq_str_dict _ _ g1 g2 ⟨_, _, g3⟩ (by show A.units + 1 + 1 < cLine; omega)
  have hk : k ≠ k' := by
    rintro rfl
    rw [hp] at hp'
    cases hp'
    rw [hpd] at hpd'
    cases hpd'
    cases rc with
    | str _ t => cases rc'
  have e2 : EqAt A.in1 s (.ref k) (.ref k') false := by
    have := RcAt.tuples (A := A.in1) (s := s) (e := fun _ => false) ⟨_, hp, hpc, _, hpd⟩ ⟨_, hp', hpc', _, hpd'⟩ (by show A.units + 1 < cLine; omega) (fun j h1 h2 => by
      obtain rfl : j = 0 := by simpa using h1
      exact e1)
    exact EqAt.of_refs hk (by simpa using this)
  have hl : l ≠ l' := by
    rintro rfl
    rw [ho] at ho'
    cases ho'
    rw [hd] at hd'
    cases hd'
    exact hk rfl
  have := RcAt.tuples (A := A) (s := s) (items := #[.ref k, b]) (items2 := #[.ref k', b']) (e := fun j => if j = 0 then false else PyData.eqv (.int n) (.int m)) ⟨_, ho, hc, _, hd⟩ ⟨_, ho', hc', _, hd'⟩ (by omega) (fun j h1 h2 => by
    match j, h1 with
    | 0, _ => exact e2
    | 1, _ => exact eqAt_reads (.int n) (.int m) _ s _ _ _ _ rb rb' rfl rfl (by show A.units + 1 + min 0 0 < cLine; simp; omega))
  exact EqAt.of_refs hl (by simpa [List.range_succ] using this)
end

section
variable {prog : Program} {w : World} {A : Around} {E : Value → Shared → Prop} {s : Shared}
theorem reads_mem {h : Heap} : ∀ (xs : List PyData) (vs : List Value) (as : List Addr), ReadsAll h vs xs as → xs.all isForm = true → ∀ y ∈ vs, ∃ d bs, Reads h y d bs ∧ isForm d = true
  | [], _, _, r, _, y, hy => by cases r; cases hy
  | x :: xs, _, _, r, hf, y, hy => by
    rw [List.all_cons, Bool.and_eq_true] at hf
    cases r with
    | cons r1 r2 =>
      rcases List.mem_cons.mp hy with rfl | hy
      · exact ⟨x, _, r1, hf.1⟩
      · exact reads_mem xs _ _ r2 hf.2 y hy
theorem any_false (vs : Array Value) : (vs.any fun _ => false) = false := by
  rw [← Array.any_toList]
  generalize vs.toList = l
  induction l with
  | nil => rfl
  | cons a l ih => simpa using ih
theorem head_each {x : Value} {d : PyData} {xs : List PyData} {as bs : List Addr} {vs : Array Value} (rx : Reads s.heap x d bs) (hd : isHead d = true) (r : ReadsAll s.heap vs.toList xs as) (hf : xs.all isForm = true) (hu : A.units + 5 < cLine) :
    ∀ y, y ∈ vs → EqAt A.in1 s y x false := fun y hy => by
  unfold isHead at hd
  split at hd
  · obtain ⟨dy, cs, ry, hy⟩ := reads_mem xs _ _ r hf y (by simpa using hy)
    exact form_head hy ry rx (by show A.units + 1 + 4 < cLine; omega)
  · cases hd
theorem in_head {c x : Value} {xs : List PyData} {d : PyData} {as bs : List Addr} {Q : Value → Shared → Prop} (rx : Reads s.heap x d bs) (rc : Reads s.heap c (.tuple xs) as) (hd : isHead d = true) (hf : xs.all isForm = true) (hu : A.units + 5 < cLine) (h : Q (.bool false) s) : wpAny (model prog w) A (compareOp .In x c) Q E s := by
  cases rc with
  | tuple h1 h2 h3 h4 => exact in_tupleAt (fun _ => false) ⟨_, h1, h2, _, h3⟩ (head_each rx hd h4 hf hu) (by rw [any_false]; exact h)
theorem notIn_head {c x : Value} {xs : List PyData} {d : PyData} {as bs : List Addr} {Q : Value → Shared → Prop} (rx : Reads s.heap x d bs) (rc : Reads s.heap c (.tuple xs) as) (hd : isHead d = true) (hf : xs.all isForm = true) (hu : A.units + 5 < cLine) (h : Q (.bool true) s) : wpAny (model prog w) A (compareOp .NotIn x c) Q E s := by
  cases rc with
  | tuple h1 h2 h3 h4 => exact notIn_tupleAt (fun _ => false) ⟨_, h1, h2, _, h3⟩ (head_each rx hd h4 hf hu) (by rw [any_false]; exact h)
end
theorem noLK_all : ∀ {kvs : List (D × D)}, noLK kvs = true → noLA (kvs.map (·.1)) = true ∧ noLA (kvs.map (·.2)) = true
  | [], _ => ⟨rfl, rfl⟩
  | (k, v) :: r, z => by
    rw [noLK, Bool.and_eq_true, Bool.and_eq_true] at z
    obtain ⟨h1, h2⟩ := noLK_all z.2
    refine ⟨?_, ?_⟩
    · show noLA (k :: _) = true
      rw [noLA, z.1.1, h1]
      rfl
    · show noLA (v :: _) = true
      rw [noLA, z.1.2, h2]
      rfl
section
variable {P : Program} {w : World} {G : Addr → Prop} {H : Hp} {h : Heap}
mutual
/-- no list in it: sys.modules is not among what it is read of -/
theorem Dat.readsN (hok : HOk P w H h) : ∀ {v : V} {d : D} {u : Value}, Dat w G H v d → RelV v u → noL d = true → ∃ as, Reads h u d as ∧ sysModules ∉ as
  | _, _, _, .none, q, _ => by
    cases q
    exact ⟨[], .none, nofun⟩
  | _, _, _, .bool b, q, _ => by
    cases q
    exact ⟨[], .bool b, nofun⟩
  | _, _, _, .int i, q, _ => by
    obtain ⟨t, rfl⟩ := q
    exact ⟨[], .int i t, nofun⟩
  | _, _, _, .str x, q, _ => by
    obtain ⟨t, rfl⟩ := q
    exact ⟨[], .str x t, nofun⟩
  | _, _, _, .list (a := a) g e r, q, z => by simp [noL] at z
  | _, _, _, .tup e nd r, q, z => by
    cases q
    obtain ⟨_, _, its, rv, o, eo, c, n, dd⟩ := hok _ _ e
    obtain ⟨as, ra, na⟩ := Dats.readsN hok r rv (by simpa [noL] using z)
    exact ⟨as, .tuple eo c dd (by simpa using ra), na⟩
  | _, _, _, .dict (a := a) (kvs := kvs) g e r s k, q, z => by
    cases q
    obtain ⟨⟨hm, _, o, ds, ep, eo, ed, dd, pr, _⟩, _, _⟩ := hok _ _ e
    obtain ⟨vk, vv⟩ := vals_keys pr
    obtain ⟨z1, z2⟩ := noLK_all (by simpa [noL] using z)
    obtain ⟨as, ra, na⟩ := Dats.readsN hok r vk z1
    obtain ⟨bs, rb, nb⟩ := Dats.readsN hok s vv z2
    refine ⟨a :: as ++ bs, .dict eo ed.1 dd ra rb, fun hh => ?_⟩
    rcases List.mem_append.mp hh with hh | hh
    · rcases List.mem_cons.mp hh with hh | hh
      · subst hh
        simp at hm
      · exact na hh
    · exact nb hh
theorem Dats.readsN (hok : HOk P w H h) : ∀ {vs : List V} {ds : List D} {us : List Value}, Dats w G H vs ds → Vals vs us → noLA ds = true → ∃ as, ReadsAll h us ds as ∧ sysModules ∉ as
  | _, _, _, .nil, q, _ => by
    cases q
    exact ⟨[], .nil, nofun⟩
  | _, _, _, .cons r t, q, z => by
    rw [noLA, Bool.and_eq_true] at z
    cases q with
    | cons q1 q2 =>
      obtain ⟨as, ra, na⟩ := Dat.readsN hok r q1 z.1
      obtain ⟨bs, rb, nb⟩ := Dats.readsN hok t q2 z.2
      exact ⟨as ++ bs, .cons ra rb, fun hh => (List.mem_append.mp hh).elim na nb⟩
end
end
end Os
end
section
set_option linter.all false
set_option maxRecDepth 100000
set_option maxHeartbeats 4000000
/-! OsD: comparisons, truth, places, slices, built-ins, by data. -/
namespace Os
open PySem PySem.Spec PyProof.Rows L2

/-- what a context of ours knows besides -/
structure XR (X : Cx) : Prop where
  calm : X.calm = true
  un : X.A.units + 100 < cLine
  gd : X.A.guards = some []

def rC2 (w : World) (f : D → D → Option Bool) : R2 := fun x y H Q => ∃ G dx dy b, Dat w G H x dx ∧ Dat w G H y dy ∧ f dx dy = some b ∧ Q (.bl b) H
def rB1 (w : World) (f : D → Option D) : List V → Hp → VK → Prop := fun xs H Q => ∃ x, xs = [x] ∧ rD1 w f x H Q

section
variable {X : Cx}
theorem reads_of {pins : List (Addr × Obj)} {σ : L2.St} {H : Hp} {s : Shared} {G : Addr → Prop} {v : V} {u : Value} {d : D} (I : Inv X pins σ H s) (r : Dat X.w G H v d) (q : RelV v u) : ∃ as, Reads s.heap u d as := r.reads I.hok q

theorem dS {a b : Str} : decide (V.str a = V.str b) = decide (a = b) := by
  rw [Bool.eq_iff_iff]
  simp
theorem dI {a b : Int} : decide (V.int a = V.int b) = decide (a = b) := by
  rw [Bool.eq_iff_iff]
  simp
theorem op_eqC (R : XR X) : OpR X (compareOp .Eq) (rC2 X.w dEq) := by
  intro pins s σ H x y v u Q I rx ry ⟨G, dx, dy, b, hx, hy, hd, q⟩
  unfold dEq at hd
  split at hd
  · cases hd
    obtain rfl := hx.strE
    obtain rfl := hy.strE
    exact op_eq pins s σ H _ _ v u Q I rx ry ⟨rfl, by rw [dS]; exact q⟩
  · cases hd
    obtain rfl := hx.intE
    obtain rfl := hy.intE
    exact op_eq pins s σ H _ _ v u Q I rx ry ⟨rfl, by rw [dI]; exact q⟩
  · split at hd
    · rename_i hc
      cases hd
      obtain ⟨a1, es, rfl, _, e, dd⟩ := hx.dictE
      obtain ⟨a2, fs, rfl, _, e', dd'⟩ := hy.dictE
      cases rx
      cases ry
      obtain ⟨xs, x, qx, sx, _⟩ := de_of I.hok e dd
      obtain ⟨ys, y, qy, sy, _⟩ := de_of I.hok e' dd'
      exact d_equal (by have := R.un; omega) sx sy x y (num_eq hc dd dd' qx qy) ⟨.bl _, H, I, rfl, q⟩
    · cases hd
  · split at hd
    · cases hd
      rename_i hc
      obtain ⟨as, ra⟩ := reads_of I hx rx
      obtain ⟨bs, rb⟩ := reads_of I hy ry
      exact eq_dataH ra rb hc.1 hc.2 (by have := R.un; omega) ⟨.bl _, H, I, rfl, q⟩
    · cases hd
theorem op_neC (R : XR X) : OpR X (compareOp .NotEq) (rC2 X.w fun x y => (dEq x y).map (!·)) := by
  intro pins s σ H x y v u Q I rx ry ⟨G, dx, dy, b, hx, hy, hd, q⟩
  replace hd := map_some hd
  obtain ⟨b', hd, rfl⟩ := hd
  unfold dEq at hd
  split at hd
  · cases hd
    obtain rfl := hx.strE
    obtain rfl := hy.strE
    exact op_ne pins s σ H _ _ v u Q I rx ry ⟨rfl, by rw [dS]; exact q⟩
  · cases hd
    obtain rfl := hx.intE
    obtain rfl := hy.intE
    exact op_ne pins s σ H _ _ v u Q I rx ry ⟨rfl, by rw [dI]; exact q⟩
  · split at hd
    · rename_i hc
      cases hd
      obtain ⟨a1, es, rfl, _, e, dd⟩ := hx.dictE
      obtain ⟨a2, fs, rfl, _, e', dd'⟩ := hy.dictE
      cases rx
      cases ry
      obtain ⟨xs, x, qx, sx, _⟩ := de_of I.hok e dd
      obtain ⟨ys, y, qy, sy, _⟩ := de_of I.hok e' dd'
      exact d_unequal (by have := R.un; omega) sx sy x y (num_eq hc dd dd' qx qy) ⟨.bl _, H, I, rfl, q⟩
    · cases hd
  · split at hd
    · cases hd
      rename_i hc
      obtain ⟨as, ra⟩ := reads_of I hx rx
      obtain ⟨bs, rb⟩ := reads_of I hy ry
      exact ne_dataH ra rb hc.1 hc.2 (by have := R.un; omega) ⟨.bl _, H, I, rfl, q⟩
    · cases hd
theorem op_ltC (R : XR X) : OpR X (compareOp .Lt) (rC2 X.w dLt) := by
  intro pins s σ H x y v u Q I rx ry ⟨G, dx, dy, b, hx, hy, hd, q⟩
  unfold dLt at hd
  split at hd
  · cases hd
    obtain rfl := hx.intE
    obtain rfl := hy.intE
    exact op_lt pins s σ H _ _ v u Q I rx ry ⟨_, _, rfl, rfl, q⟩
  · cases hd
    obtain rfl := hx.strE
    obtain rfl := hy.strE
    exact op_lt_str pins s σ H _ _ v u Q I rx ry ⟨_, _, rfl, rfl, q⟩
  · split at hd
    · cases hd
      rename_i hc
      obtain ⟨as, ra⟩ := reads_of I hx rx
      obtain ⟨bs, rb⟩ := reads_of I hy ry
      exact PySem.W.lt_data ra rb hc.1 (fun z => nomatch z) (by have := R.un; have := hc.2.2.1; show X.A.units + min (PyData.depth _) (PyData.depth _) < cLine; omega) ⟨.bl _, H, I, rfl, q⟩
    · cases hd
  · cases hd
theorem op_ltM (R : XR X) : OpR X (compareOp .Lt) (rC2 X.w dLtM) := by
  intro pins s σ H x y v u Q I rx ry ⟨G, dx, dy, b, hx, hy, hd, q⟩
  unfold dLtM at hd
  split at hd
  · rename_i h
    cases hd
    exact op_ltC R pins s σ H x y v u Q I rx ry ⟨G, dx, dy, _, hx, hy, h, q⟩
  · unfold firstD at hd
    split at hd
    · split at hd
      · cases hd
      · rename_i hij
        cases hd
        obtain ⟨as, ra⟩ := reads_of I hx rx
        obtain ⟨bs, rb⟩ := reads_of I hy ry
        exact PySem.SeqAt.lt_first ra rb hij (by have := R.un; omega) ⟨.bl _, H, I, rfl, q⟩
    · cases hd
theorem op_gtC (R : XR X) : OpR X (compareOp .Gt) (rC2 X.w fun x y => dLt y x) := by
  intro pins s σ H x y v u Q I rx ry ⟨G, dx, dy, b, hx, hy, hd, q⟩
  dsimp only at hd
  unfold dLt at hd
  split at hd
  · cases hd
    obtain rfl := hx.intE
    obtain rfl := hy.intE
    exact op_gt pins s σ H _ _ v u Q I rx ry ⟨_, _, rfl, rfl, q⟩
  · cases hd
    obtain rfl := hx.strE
    obtain rfl := hy.strE
    exact op_gt_str pins s σ H _ _ v u Q I rx ry ⟨_, _, rfl, rfl, q⟩
  · split at hd
    · cases hd
      rename_i hc
      obtain ⟨as, ra⟩ := reads_of I hx rx
      obtain ⟨bs, rb⟩ := reads_of I hy ry
      exact PySem.W.gt_data ra rb hc.2.1 (fun z => nomatch z) (by have := R.un; have := hc.2.2.2; show X.A.units + min (PyData.depth _) (PyData.depth _) < cLine; omega) ⟨.bl _, H, I, rfl, q⟩
    · cases hd
  · cases hd
theorem op_leC : OpR X (compareOp .LtE) (rC2 X.w dLe) := by
  intro pins s σ H x y v u Q I rx ry ⟨G, dx, dy, b, hx, hy, hd, q⟩
  unfold dLe at hd
  split at hd
  · cases hd
    obtain rfl := hx.intE
    obtain rfl := hy.intE
    exact op_le pins s σ H _ _ v u Q I rx ry ⟨_, _, rfl, rfl, q⟩
  · cases hd
    obtain rfl := hx.strE
    obtain rfl := hy.strE
    exact op_le_str pins s σ H _ _ v u Q I rx ry ⟨_, _, rfl, rfl, q⟩
  · cases hd
theorem op_geC : OpR X (compareOp .GtE) (rC2 X.w fun x y => dLe y x) := by
  intro pins s σ H x y v u Q I rx ry ⟨G, dx, dy, b, hx, hy, hd, q⟩
  dsimp only at hd
  unfold dLe at hd
  split at hd
  · cases hd
    obtain rfl := hx.intE
    obtain rfl := hy.intE
    exact op_ge pins s σ H _ _ v u Q I rx ry ⟨_, _, rfl, rfl, q⟩
  · cases hd
    obtain rfl := hx.strE
    obtain rfl := hy.strE
    exact op_ge_str pins s σ H _ _ v u Q I rx ry ⟨_, _, rfl, rfl, q⟩
  · cases hd
theorem shaped_items {ys : List D} : (SeqAt.shaped (.list ys) = true → PyData.canLayAll0 ys = true) ∧ (SeqAt.shaped (.tuple ys) = true → PyData.canLayAll0 ys = true) := by
  constructor
  · intro h
    have := SeqAt.canLay_of_shaped h
    simpa [PyData.canLay0] using this
  · intro h
    have := SeqAt.canLay_of_shaped h
    simpa [PyData.canLay0] using this
theorem op_inC (R : XR X) : OpR X (compareOp .In) (rC2 X.w dIn) := by
  intro pins s σ H x y v u Q I rx ry ⟨G, dx, dy, b, hx, hy, hd, q⟩
  unfold dIn at hd
  split at hd
  · split at hd
    · cases hd
      rename_i hc
      obtain ⟨as, ra⟩ := reads_of I hx rx
      obtain ⟨bs, rb⟩ := reads_of I hy ry
      exact SeqAt.in_list_reads rb ra (shaped_items.1 hc.2) (SeqAt.canLay_of_shaped hc.1) (room_in_shaped hc.1 (by have := R.un; omega)) ⟨.bl _, H, I, rfl, q⟩
    · cases hd
  · split at hd
    · cases hd
      rename_i hc
      obtain ⟨as, ra⟩ := reads_of I hx rx
      obtain ⟨bs, rb⟩ := reads_of I hy ry
      exact SeqAt.in_tuple_reads rb ra (shaped_items.2 hc.2) (SeqAt.canLay_of_shaped hc.1) (room_in_shaped hc.1 (by have := R.un; omega)) ⟨.bl _, H, I, rfl, q⟩
    · split at hd
      · cases hd
        rename_i hc
        obtain ⟨as, ra⟩ := reads_of I hx rx
        obtain ⟨bs, rb⟩ := reads_of I hy ry
        exact in_head ra rb hc.1 hc.2 (by have := R.un; omega) ⟨.bl _, H, I, rfl, q⟩
      · cases hd
  · split at hd
    · cases hd
      obtain rfl := hx.strE
      obtain rfl := hy.strE
      exact op_in_str pins s σ H _ _ v u Q I rx ry ⟨_, _, rfl, rfl, q⟩
    · cases hd
  · obtain ⟨k, hk, rfl⟩ := map_some hd
    obtain ⟨a, es, rfl, _, e, dd⟩ := hy.dictE
    cases ry
    obtain ⟨hk1, hk2⟩ := keyD_key hk
    obtain ⟨xs, x, qx, hs, hz⟩ := de_of I.hok e dd
    refine d_in (by have := R.un; omega) (Dat.nested I.hok hx rx hk1) hk2 hs x fun t => ⟨.bl _, H, I.tok _, rfl, ?_⟩
    rw [at_isSome dd qx]
    exact q
  · cases hd
theorem op_notinC (R : XR X) : OpR X (compareOp .NotIn) (rC2 X.w fun x y => (dIn x y).map (!·)) := by
  intro pins s σ H x y v u Q I rx ry ⟨G, dx, dy, b, hx, hy, hd, q⟩
  replace hd := map_some hd
  obtain ⟨b', hd, rfl⟩ := hd
  unfold dIn at hd
  split at hd
  · split at hd
    · cases hd
      rename_i hc
      obtain ⟨as, ra⟩ := reads_of I hx rx
      obtain ⟨bs, rb⟩ := reads_of I hy ry
      exact SeqAt.notIn_list_reads rb ra (shaped_items.1 hc.2) (SeqAt.canLay_of_shaped hc.1) (room_in_shaped hc.1 (by have := R.un; omega)) ⟨.bl _, H, I, rfl, q⟩
    · cases hd
  · split at hd
    · cases hd
      rename_i hc
      obtain ⟨as, ra⟩ := reads_of I hx rx
      obtain ⟨bs, rb⟩ := reads_of I hy ry
      exact SeqAt.notIn_tuple_reads rb ra (shaped_items.2 hc.2) (SeqAt.canLay_of_shaped hc.1) (room_in_shaped hc.1 (by have := R.un; omega)) ⟨.bl _, H, I, rfl, q⟩
    · split at hd
      · cases hd
        rename_i hc
        obtain ⟨as, ra⟩ := reads_of I hx rx
        obtain ⟨bs, rb⟩ := reads_of I hy ry
        exact notIn_head ra rb hc.1 hc.2 (by have := R.un; omega) ⟨.bl _, H, I, rfl, q⟩
      · cases hd
  · split at hd
    · cases hd
      obtain rfl := hx.strE
      obtain rfl := hy.strE
      exact op_notin_str pins s σ H _ _ v u Q I rx ry ⟨_, _, rfl, rfl, q⟩
    · cases hd
  · obtain ⟨k, hk, rfl⟩ := map_some hd
    obtain ⟨a, es, rfl, _, e, dd⟩ := hy.dictE
    cases ry
    obtain ⟨hk1, hk2⟩ := keyD_key hk
    obtain ⟨xs, x, qx, hs, hz⟩ := de_of I.hok e dd
    refine d_notin (by have := R.un; omega) (Dat.nested I.hok hx rx hk1) hk2 hs x fun t => ⟨.bl _, H, I.tok _, rfl, ?_⟩
    rw [at_isSome dd qx]
    exact q
  · cases hd
def coOp : CO → CmpOp
  | .eq => .Eq
  | .ne => .NotEq
  | .lt => .Lt
  | .le => .LtE
  | .gt => .Gt
  | .ge => .GtE
  | .isin => .In
  | .notin => .NotIn
theorem op_cmpC (R : XR X) (o : CO) : OpR X (compareOp (coOp o)) (rC2 X.w (dCmp o)) := by
  cases o
  · exact op_eqC R
  · exact op_neC R
  · exact op_ltM R
  · exact op_leC
  · exact op_gtC R
  · exact op_geC
  · exact op_inC R
  · exact op_notinC R
def o2Op : O2 → Operator
  | .add => .Add
  | .sub => .Sub
  | .mul => .Mult
  | .fdiv => .FloorDiv
  | .mod => .Mod
  | .pow => .Pow
theorem op_o2D (o : O2) : OpR X (binaryOp (o2Op o)) (rD2 X.w (dOp o)) := by
  cases o
  · exact op_addD
  · exact op_subD
  · exact op_mulD
  · exact op_fdivD
  · exact op_modD
  · exact op_powD

theorem isEmpty_len {α β : Type} {xs : List α} {ys : List β} (h : xs.length = ys.length) : xs.isEmpty = ys.isEmpty := by
  cases xs <;> cases ys <;> simp_all
theorem tru_of {G : Addr → Prop} {H : Hp} {v : V} {d : D} {b : Bool} (r : Dat X.w G H v d) (h : tru d = some b) : TruV X.K v H b := by
  cases r with
  | none => cases h; rfl
  | bool c => cases h; rfl
  | int i => cases h; rfl
  | str x =>
    simp only [tru] at h
    split at h
    · cases h
      exact ⟨by assumption, rfl⟩
    · cases h
  | list g e r =>
    cases h
    exact .inl ⟨_, SqL.of e, by rw [isEmpty_len r.length]⟩
  | tup e n r =>
    cases h
    exact .inr (.inl ⟨_, SqT.fz e, by rw [isEmpty_len r.length]⟩)
  | dict _ _ _ _ _ => cases h

theorem none_iff {G : Addr → Prop} {H : Hp} {v : V} {d : D} (r : Dat X.w G H v d) : decide (v = .non) = isNone d := by
  cases r <;> rfl

theorem Dats.atI {w : World} {G : Addr → Prop} {H : Hp} {vs : List V} {ds : List D} {i : Int} {d : D} (r : Dats w G H vs ds) (h : L2.atI ds i = some d) : ∃ v, L2.atI vs i = some v ∧ Dat w G H v d := by
  unfold L2.atI at h ⊢
  rw [r.length]
  obtain ⟨j, h1, h2⟩ := bind_some h
  obtain ⟨v, h3, h4⟩ := r.get h2
  exact ⟨v, by rw [h1]; exact h3, h4⟩
theorem ix_D (R : XR X) : IxR X (rD2 X.w dIdx) := by
  intro value slice pins s σ H x y v u Q I rx ry ⟨G, dx, dy, d, hx, hy, hd, q⟩ hs
  unfold dIdx at hd
  split at hd
  · obtain ⟨a, vs, rfl, _, e, r⟩ := hx.listE
    obtain rfl := hy.intE
    obtain ⟨z, h1, h2⟩ := r.atI hd
    exact ix_list value slice pins s σ H _ _ v u Q I rx ry ⟨_, _, _, _, rfl, rfl, SqL.of e, h1, q _ _ (Same.refl H) h2.weak⟩ hs
  · obtain ⟨a, o, vs, rfl, e, _, r⟩ := hx.tupE
    obtain rfl := hy.intE
    obtain ⟨z, h1, h2⟩ := r.atI hd
    exact ix_tup value slice pins s σ H _ _ v u Q I rx ry ⟨_, _, _, _, rfl, rfl, SqT.fz e, h1, q _ _ (Same.refl H) h2.weak⟩ hs
  · split at hd
    · obtain rfl := hx.strE
      obtain rfl := hy.intE
      obtain ⟨c, h1, rfl⟩ := map_some hd
      exact ix_str value slice pins s σ H _ _ v u Q I rx ry ⟨_, _, _, rfl, rfl, by assumption, h1, q _ _ (Same.refl H) (.str _)⟩ hs
    · cases hd
  · obtain ⟨k, hk, hd⟩ := bind_some hd
    obtain ⟨a, es, rfl, _, e, dd⟩ := hx.dictE
    cases rx
    obtain ⟨hk1, hk2⟩ := keyD_key hk
    obtain ⟨xs, x, qx, hs2, hz⟩ := de_of I.hok e dd
    obtain ⟨u', v', h1, h2, h3⟩ := (at_rel (k := k) dd qx).2 _ hd
    exact tail_any x.type PySem.F.slot_dict_getitem.lookup (d_item (by have := R.un; omega) (Dat.nested I.hok hy ry hk1) hk2 x h1 fun t => ⟨v', H, I.tok _, h2, q _ _ (Same.refl H) h3.weak⟩) hs
  · cases hd

theorem Dats.cut {w : World} {G : Addr → Prop} {H : Hp} {vs : List V} {ds : List D} (r : Dats w G H vs ds) (lo hi : Option Int) : Dats w G H (cutV vs lo hi) (cutD ds lo hi) := by
  unfold cutV cutD
  rw [r.length]
  exact (r.drop _).take _
theorem cutD_all {ds : List D} {lo hi : Option Int} (h : HT.sIx ds.length 0 lo = 0 ∧ HT.sIx ds.length ds.length hi = ds.length) : cutD ds lo hi = ds := by
  unfold cutD
  rw [h.1, h.2]
  simp
def rSD (w : World) : V → Option Int → Option Int → Hp → VK → Prop := fun x lo hi H Q => ∃ G dx d, Dat w G H x dx ∧ dSlc dx lo hi = some d ∧ ∀ v H', Same H H' → Dat w (Up G H) H' v d → Q v H'
theorem sl_D : SlR X (rSD X.w) := by
  intro pins s σ H x v vl vu lo hi sl Q I rx hs pl pu ⟨G, dx, d, hx, hd, q⟩
  unfold dSlc at hd
  split at hd
  · cases hd
    obtain ⟨a, vs, rfl, _, e, r⟩ := hx.listE
    exact sl_list pins s σ H _ v vl vu _ _ sl Q I rx hs pl pu ⟨_, _, rfl, SqL.of e, fun p hp => q _ _ (same_new hp) (Dat.newL hp (r.cut _ _))⟩
  · cases hd
    obtain ⟨a, o, vs, rfl, e, _, r⟩ := hx.tupE
    refine sl_tupF pins s σ H _ v vl vu _ _ sl Q I rx hs pl pu ⟨_, _, rfl, SqT.fz e, fun z => ?_, fun _ p o hp ho => q _ _ (same_new hp) (Dat.newT hp ho (r.cut _ _))⟩
    rw [r.length] at z
    rw [cutD_all z] at q
    exact q _ _ (Same.refl H) hx.weak
  · split at hd
    · cases hd
      obtain rfl := hx.strE
      exact sl_str pins s σ H _ v vl vu _ _ sl Q I rx hs pl pu ⟨_, rfl, by assumption, q _ _ (Same.refl H) (.str _)⟩
    · cases hd
  · cases hd

theorem ints_of {w : World} {G : Addr → Prop} {H : Hp} : ∀ {vs : List V} {ds : List D} {ns : List Int}, Dats w G H vs ds → intsOf ds = some ns → vs = ns.map V.int
  | _, _, _, .nil, h => by
    cases h
    rfl
  | _, _, _, .cons r t, h => by
    cases r with
    | int i =>
      obtain ⟨ms, h1, rfl⟩ := map_some h
      rw [ints_of t h1]
      rfl
    | none => cases h
    | bool _ => cases h
    | str _ => cases h
    | list _ _ _ => cases h
    | tup _ _ _ => cases h
    | dict _ _ _ _ _ => cases h
theorem bools_of {w : World} {G : Addr → Prop} {H : Hp} : ∀ {vs : List V} {ds : List D} {ns : List Bool}, Dats w G H vs ds → boolsOf ds = some ns → vs = ns.map V.bl
  | _, _, _, .nil, h => by
    cases h
    rfl
  | _, _, _, .cons r t, h => by
    cases r with
    | bool i =>
      obtain ⟨ms, h1, rfl⟩ := map_some h
      rw [bools_of t h1]
      rfl
    | none => cases h
    | int _ => cases h
    | str _ => cases h
    | list _ _ _ => cases h
    | tup _ _ _ => cases h
    | dict _ _ _ _ _ => cases h
theorem strs_of {w : World} {G : Addr → Prop} {H : Hp} : ∀ {vs : List V} {ds : List D} {ns : List Str}, Dats w G H vs ds → strsOf ds = some ns → vs = ns.map V.str
  | _, _, _, .nil, h => by
    cases h
    rfl
  | _, _, _, .cons r t, h => by
    cases r with
    | str i =>
      obtain ⟨ms, h1, rfl⟩ := map_some h
      rw [strs_of t h1]
      rfl
    | none => cases h
    | int _ => cases h
    | bool _ => cases h
    | list _ _ _ => cases h
    | tup _ _ _ => cases h
    | dict _ _ _ _ _ => cases h

/-! ### sorted -/
theorem each_of {w : World} {G : Addr → Prop} {H : Hp} : ∀ {vs : List V} {ds : List D} {us : List Value}, Dats w G H vs ds → Vals vs us → PySem.W.EachIs (fun u d => ∃ v, RelV v u ∧ Dat w G H v d) us ds
  | _, _, _, .nil, q => by
    cases q
    exact .nil
  | _, _, _, .cons r t, q => by
    cases q with
    | cons q1 q2 => exact .cons ⟨_, q1, r⟩ (each_of t q2)
theorem of_each {w : World} {G : Addr → Prop} {H : Hp} : ∀ {us : List Value} {ds : List D}, PySem.W.EachIs (fun u d => ∃ v, RelV v u ∧ Dat w G H v d) us ds → ∃ vs, Vals vs us ∧ Dats w G H vs ds
  | _, _, .nil => ⟨[], .nil, .nil⟩
  | _, _, .cons ⟨v, r, q⟩ t => by
    obtain ⟨vs, h1, h2⟩ := of_each t
    exact ⟨v :: vs, .cons r h1, .cons q h2⟩
theorem call_sortedO (R : XR X) : CallR X (.builtin "sorted") (fun xs H Q => ∃ x, xs = [x] ∧ ∃ G ds bs, Dat X.w G H x (.list ds) ∧ dSorted ds = some bs ∧ ∀ p vs, H p = none → Dats X.w G H vs bs → Q (.ref p) (upd H p (.lst vs))) := by
  intro pins s σ H xs us Q I r ⟨x, ex, G, ds, bs, hx, hd, q⟩
  subst ex
  obtain ⟨u, rfl, rx⟩ := vals1 r
  unfold dSorted at hd
  split at hd
  · cases hd
    rename_i hc
    obtain ⟨hc, hz⟩ := hc
    unfold alikeL at hc
    rw [Bool.and_eq_true, Bool.and_eq_true] at hc
    obtain ⟨⟨ha, hs⟩, hdp⟩ := hc
    obtain ⟨a, vs, rfl, _, e, rd⟩ := hx.listE
    cases rx
    obtain ⟨_, its, n, rv, eo⟩ := I.hok _ _ e
    have ea := each_of rd rv
    have hR : PySem.W.EachIs (fun u b => ∃ as, Reads s.heap u (id b) as) its ds := ea.mono fun u b ⟨v, r1, r2⟩ => r2.reads I.hok r1
    have hal : PySem.W.AllAlike (ds.map id) := by
      rw [List.map_id]
      intro d h1 d' h2
      rw [List.all_eq_true] at ha
      have := ha d h1
      rw [List.all_eq_true] at this
      exact this d' h2
    have hk : PySem.W.Sortable (ds.map id) := by
      rw [List.map_id]
      rw [Bool.or_eq_true] at hs
      rcases hs with hs | hs
      · rw [List.all_eq_true] at hs
        refine .inl fun d hd => ?_
        have := hs d hd
        split at this
        · exact ⟨_, _, rfl⟩
        · cases this
      · rw [List.all_eq_true] at hs
        refine .inr fun d hd => ?_
        have := hs d hd
        split at this
        · cases this
        · cases this
        · rename_i h1 h2
          exact ⟨h1, fun xs => h2 xs⟩
    refine PySem.W.sorted_data (enc := id) ⟨_, eo, rfl, n, rfl⟩ ea hR hal hk hz (fun b hb => ?_) fun out ho eo' => ?_
    · rw [List.all_eq_true] at hdp
      have := of_decide_eq_true (hdp b hb)
      have := R.un
      show X.A.units + 2 + PyData.depth b < cLine
      omega
    · obtain ⟨ws, h1, h2⟩ := of_each eo'
      obtain ⟨c, hc⟩ := sortedAll_at s.heap its out.toArray
      have hf : H (s.heap.objs.size + 1) = none := I.hok.fresh (Nat.le_succ _)
      refine ⟨.ref (s.heap.objs.size + 1), upd H (s.heap.objs.size + 1) (.lst ws), I.laid (t' := s.toks) (fun b u e => sortedAll_old e) (Nat.le_succ _) ?_, rfl, q _ _ hf h2⟩
      exact ⟨by rw [h1.length, ho]; exact hz, out, c, h1, hc⟩
  · cases hd

/-! ### repr -/
theorem call_reprO (R : XR X) : CallR X (.builtin "repr") (rB1 X.w dRepr) := by
  intro pins s σ H xs us Q I r ⟨x, ex, G, dx, d, hx, hd, q⟩
  subst ex
  obtain ⟨u, rfl, rx⟩ := vals1 r
  unfold dRepr at hd
  split at hd
  · cases hd
    rename_i hc
    obtain ⟨h1, h2, h3, h4⟩ := hc
    have qq : Q (.str dx.shown) H := q _ _ (Same.refl H) (.str _)
    obtain ⟨as, ra, hsm⟩ : ∃ as, Reads s.heap u dx as ∧ (dx.hasDict = true → sysModules ∉ as) := by
      rcases h2 with h2 | h2
      · obtain ⟨as, ra⟩ := reads_of I hx rx
        exact ⟨as, ra, PyData.noDict_hsm h2⟩
      · obtain ⟨as, ra, na⟩ := Dat.readsN I.hok hx rx h2
        exact ⟨as, ra, fun _ => na⟩
    have hu : X.A.units + (dx.depth + 1) < cLine := by have := R.un; omega
    cases ra with
    | none => exact PySem.P.repr_of_none ⟨.str _, H, I.tok _, ⟨_, rfl⟩, by simpa only [PyData.shown] using qq⟩
    | bool b => exact PySem.P.repr_of_bool ⟨.str _, H, I.tok _, ⟨_, rfl⟩, by simpa only [PyData.shown] using qq⟩
    | int i t => exact PySem.P.repr_of_int (by simpa [PyData.showable] using h1) ⟨.str _, H, I.tok _, ⟨_, rfl⟩, by simpa only [PyData.shown] using qq⟩
    | str z t => exact PySem.P.repr_of_str ⟨.str _, H, I.tok _, ⟨_, rfl⟩, by simpa only [PyData.shown] using qq⟩ (by simpa only [PyData.shown] using h4)
    | list a1 a2 a3 a4 => exact repr_of_reads' (.list a1 a2 a3 a4) h1 hsm R.gd hu (fun _ _ e => e) (fun h' u tk hk => ⟨.str _, H, I.kept hk, ⟨_, rfl⟩, qq⟩) h4
    | tuple a1 a2 a3 a4 => exact repr_of_reads' (.tuple a1 a2 a3 a4) h1 hsm R.gd hu (fun _ _ e => e) (fun h' u tk hk => ⟨.str _, H, I.kept hk, ⟨_, rfl⟩, qq⟩) h4
    | dict a1 a2 a3 a4 a5 => exact repr_of_reads' (.dict a1 a2 a3 a4 a5) h1 hsm R.gd hu (fun _ _ e => e) (fun h' u tk hk => ⟨.str _, H, I.kept hk, ⟨_, rfl⟩, qq⟩) h4
  · cases hd
end
end Os
end
section
set_option linter.all false
set_option maxRecDepth 100000
set_option maxHeartbeats 4000000
/-! OsDd: built-ins over dicts of data: len(d), list(d), dict(pairs). -/
namespace Os
open PySem PySem.Spec PyProof.Rows L2

section
variable {P : Program} {w : World} {G : Addr → Prop} {H : Hp} {h : Heap}
/-- a row of pairs -/
theorem pairs_of (hok : HOk P w H h) : ∀ {vs : List V} {ds : List D} {us : List Value} {ps : List (D × D)}, Dats w G H vs ds → Vals vs us → pairsOf ds = some ps →
    ∃ (Tl : List Addr) (qs : List (V × V)) (pv : List (Value × Value)), us = Tl.map Value.ref ∧ Tl.length = ps.length ∧ pv.length = ps.length ∧ (∀ (j : Nat) (T : Addr) (k v : Value), Tl[j]? = some T → pv[j]? = some (k, v) → h.IsTuple T #[k, v]) ∧
      Dats w G H (qs.map (·.1)) (ps.map (·.1)) ∧ Dats w G H (qs.map (·.2)) (ps.map (·.2)) ∧ Vals (qs.map (·.1)) (pv.map (·.1)) ∧ Vals (qs.map (·.2)) (pv.map (·.2))
  | _, _, _, _, .nil, q, e => by
    cases q
    cases e
    exact ⟨[], [], [], rfl, rfl, rfl, fun j T k v z => (nomatch z), .nil, .nil, .nil, .nil⟩
  | _, d :: ds, _, ps, .cons r t, q, e => by
    cases q with
    | cons q1 q2 =>
      cases d with
      | tuple l =>
        match l, e with
        | [dk, dv], e =>
          rw [pairsOf] at e
          obtain ⟨ps', e1, rfl⟩ := map_some e
          obtain ⟨Tl, qs, pv, h1, h2, h3, h4, h5, h6, h7, h8⟩ := pairs_of hok t q2 e1
          obtain ⟨a, o, vs', rfl, e2, _, rd⟩ := r.tupE
          cases q1
          obtain ⟨eo, _, its, rv, o2, eo2, c2, n2, dd2⟩ := hok _ _ e2
          cases rd with
          | @cons vk _ _ _ r1 t1 =>
            cases t1 with
            | @cons vv _ _ _ r2 t2 =>
              cases t2
              cases rv with
              | @cons _ uk _ _ s1 t1 =>
                cases t1 with
                | @cons _ uv _ _ s2 t2 =>
                  cases t2
                  refine ⟨a :: Tl, (vk, vv) :: qs, (uk, uv) :: pv, by rw [h1]; rfl, by simp [h2], by simp [h3], fun j T k v z1 z2 => ?_, .cons r1 h5, .cons r2 h6, .cons s1 h7, .cons s2 h8⟩
                  cases j with
                  | zero =>
                    cases z1
                    cases z2
                    exact ⟨o2, eo2, c2, n2, dd2⟩
                  | succ j => exact h4 j T k v z1 z2
        | [], e => cases e
        | [_], e => cases e
        | _ :: _ :: _ :: _, e => cases e
      | _ => cases e
/-- what dict(..) puts in, one behind another -/
theorem dict_all (hok : HOk P w H h) : ∀ {ps : List (D × D)} {qs : List (V × V)} {pv : List (Value × Value)} {es : Es} {xs : List Ent} {kvs kvs' : List (D × D)}, Dats w G H (qs.map (·.1)) (ps.map (·.1)) → Dats w G H (qs.map (·.2)) (ps.map (·.2)) → Vals (qs.map (·.1)) (pv.map (·.1)) → Vals (qs.map (·.2)) (pv.map (·.2)) →
    EX es xs → DKV w G H es kvs → dictOf kvs ps = some kvs' → ∃ (l : List Ent) (es' : Es), l.map (·.2) = pv ∧ (∀ x ∈ l, NestedIs h x.1 x.2.1 ∧ x.1.depth ≤ 8) ∧ EX es' (eAll xs l) ∧ DKV w G H es' kvs' ∧ es'.length ≤ es.length + ps.length
  | [], [], [], es, xs, kvs, kvs', _, _, _, _, x, d, e => by
    cases e
    exact ⟨[], es, rfl, fun x z => (nomatch z), x, d, Nat.le_refl _⟩
  | (kd, vd) :: ps, (vk, vv) :: qs, (uk, uv) :: pv, es, xs, kvs, kvs', d1, d2, v1, v2, x, d, e => by
    rw [dictOf] at e
    obtain ⟨k, hk, e⟩ := bind_some e
    obtain ⟨hk1, hk2⟩ := keyD_key hk
    cases d1 with
    | cons r1 t1 =>
      cases d2 with
      | cons r2 t2 =>
        cases v1 with
        | cons s1 u1 =>
          cases v2 with
          | cons s2 u2 =>
            obtain ⟨l, es', h1, h2, h3, h4, h5⟩ := dict_all hok t1 t2 u1 u2 (put_ex (k := k) x s1 s2) (put_dkv d hk1 r1 r2) e
            refine ⟨(k, uk, uv) :: l, es', by rw [List.map_cons, h1], fun y hy => ?_, h3, h4, ?_⟩
            · rcases List.mem_cons.mp hy with z | z
              · rw [z]
                exact ⟨Dat.nested hok r1 s1 hk1, hk2⟩
              · exact h2 y z
            · have := esPut_length es k vk vv
              dsimp only at h5
              simp only [List.length_cons]
              omega
  | [], _ :: _, _, _, _, _, _, d1, _, _, _, _, _, _ => nomatch d1
  | _ :: _, [], _, _, _, _, _, d1, _, _, _, _, _, _ => nomatch d1
  | [], [], _ :: _, _, _, _, _, _, _, v1, _, _, _, _ => nomatch v1
  | _ :: _, _ :: _, [], _, _, _, _, _, _, v1, _, _, _, _ => nomatch v1
end
theorem pairsOf_length : ∀ {ds : List D} {ps : List (D × D)}, pairsOf ds = some ps → ps.length = ds.length
  | [], _, h => by
    cases h
    rfl
  | .tuple [k, v] :: ds, _, h => by
    rw [pairsOf] at h
    obtain ⟨ps', e1, rfl⟩ := map_some h
    simp [pairsOf_length e1]
  | .tuple [] :: _, _, h => by cases h
  | .tuple [_] :: _, _, h => by cases h
  | .tuple (_ :: _ :: _ :: _) :: _, _, h => by cases h
  | .none :: _, _, h => by cases h
  | .bool _ :: _, _, h => by cases h
  | .int _ :: _, _, h => by cases h
  | .str _ :: _, _, h => by cases h
  | .list _ :: _, _, h => by cases h
  | .dict _ :: _, _, h => by cases h
section
variable {X : Cx}
theorem DE.raw {w : World} {h : Heap} {d : Addr} {xs : List Ent} (x : DE w h d xs) : ∃ es ep, h.DictRaw d es ep ∧ EntOk w h xs es := let ⟨o, es, ep, ho, hc, hd, he⟩ := x; ⟨es, ep, ⟨o, ho, hc, hd⟩, he⟩
theorem call_lenD (R : XR X) : CallR X (.builtin "len") (fun xs H Q => ∃ x G kvs, xs = [x] ∧ Dat X.w G H x (.dict kvs) ∧ Q (.int kvs.length) H) := by
  intro pins s σ H xs us Q I r ⟨x, G, kvs, ex, hx, q⟩
  subst ex
  obtain ⟨u, rfl, rx⟩ := vals1 r
  obtain ⟨a, es, rfl, _, e, dd⟩ := hx.dictE
  cases rx
  obtain ⟨xs, x, qx, hs, hz⟩ := de_of I.hok e dd
  obtain ⟨ds, ep, raw, he⟩ := x.raw
  have hl : ds.size = kvs.length := by
    rw [he.size, qx.length]
    simpa using dd.ks.length
  refine PyProof.Rows.call_len_slot (n := kvs.length) raw.typeIs PySem.F.slot_dict_len (fun Q' hq => call_len_raw hs raw (by rw [hl]; exact hq)) (by omega) (by
    have := he.size
    have : sizeLine < 2 ^ 62 := by decide
    omega) ⟨.int _, H, I.tok _, ⟨_, rfl⟩, q⟩
theorem items_eq {w : World} {h : Heap} {xs : List Ent} {ds : Array DictEntry} {acc : Array Value} (he : EntOk w h xs ds) (hi : ItemsOf (fun i v => ∃ hi : i < ds.size, v = ds[i].key) acc ds.size) : acc.toList = xs.map (·.2.1) := by
  refine List.ext_getElem? fun i => ?_
  rw [List.getElem?_map, Array.getElem?_toList]
  by_cases hl : i < acc.size
  · obtain ⟨h1, h2⟩ := hi.2 i _ (Array.getElem?_eq_getElem hl)
    rw [Array.getElem?_eq_getElem hl, h2]
    have e1 := he.at i
    rw [Array.getElem?_eq_getElem h1] at e1
    cases e2 : xs[i]? with
    | none => rw [e2] at e1; cases e1
    | some y =>
      rw [e2] at e1
      have e3 : ds[i] = entD w y := Option.some.inj e1
      rw [e3]
      rfl
  · rw [Array.getElem?_eq_none (by omega)]
    have : xs.length ≤ i := by
      have := he.size
      have := hi.1
      omega
    rw [List.getElem?_eq_none this]
    rfl
theorem call_listD (R : XR X) : CallR X (.type "list") (fun xs H Q => ∃ x G kvs, xs = [x] ∧ Dat X.w G H x (.dict kvs) ∧ ∀ p vs, H p = none → Dats X.w G H vs (kvs.map (·.1)) → Q (.ref p) (upd H p (.lst vs))) := by
  intro pins s σ H xs us Q I r ⟨x, G, kvs, ex, hx, q⟩
  subst ex
  obtain ⟨u, rfl, rx⟩ := vals1 r
  obtain ⟨a, es, rfl, _, e, dd⟩ := hx.dictE
  cases rx
  obtain ⟨xs, x, qx, hs, hz⟩ := de_of I.hok e dd
  obtain ⟨ds, ep, raw, he⟩ := x.raw
  refine PySem.W.kdl_call (PySem.KdlSrc.rawDict (es := ds) (ep := ep) hs) (I.ok.hd R.calm) raw (by rw [he.size]; exact hz) fun h' tk acc c hk hD hacc => ?_
  have hit := items_eq he hacc
  have hf : H s.heap.objs.size = none := I.hok.fresh (Nat.le_refl _)
  refine ⟨.ref s.heap.objs.size, upd H s.heap.objs.size (.lst (es.map (·.2.1))), I.laid (t' := tk) hk (Nat.le_refl _) ?_, rfl, q _ _ hf dd.ks⟩
  refine ⟨by rw [List.length_map, ← qx.length]; exact hz, acc.toList, c, by rw [hit]; exact qx.uk, ?_⟩
  rw [Array.toArray_toList]
  exact hD
theorem call_dictD (R : XR X) : CallR X (.type "dict") (fun xs H Q => ∃ x G dx ds ps kvs, xs = [x] ∧ Dat X.w G H x dx ∧ (dx = .list ds ∨ dx = .tuple ds) ∧ ds.length ≤ sizeLine ∧ pairsOf ds = some ps ∧ dictOf [] ps = some kvs ∧ ∀ p es, H p = none → DKV X.w G H es kvs → Q (.ref p) (upd H p (dO X.w p es))) := by
  intro pins s σ H xs us Q I r ⟨x, G, dx, ds, ps, kvs, ex, hx, hd, hz, hp, hk, q⟩
  subst ex
  obtain ⟨u, rfl, rx⟩ := vals1 r
  have core : ∀ {T : String} {a : Addr} {vs : List V} {its : List Value}, Dats X.w G H vs ds → Vals vs its → (∀ Tl pv, PySem.PairArg X.prog X.w T a (a :: (List.range (pv : List (Value × Value)).length).map (Tl : Nat → Addr)) [] pv.length (PairRel pv) (fun h => PlainSeq T h a its.toArray ∧ PairItems h its.toArray Tl pv)) → PlainSeq T s.heap a its.toArray →
      wpAny (model X.prog X.w) X.A (call (.type "dict") [.ref a]) (EP X pins σ Q) X.xe s := by
    intro T a vs its rd rv PA pl
    obtain ⟨Tl, qs, pv, h1, h2, h3, h4, h5, h6, h7, h8⟩ := pairs_of I.hok rd rv hp
    obtain ⟨l, es', g1, g2, g3, g4, g5⟩ := dict_all (es := []) (xs := []) (kvs := []) I.hok h5 h6 h7 h8 ⟨rfl, .nil, .nil⟩ ⟨.nil, .nil, rfl⟩ hk
    have hpl := pairsOf_length hp
    have hln : l.length = pv.length := by simpa using congrArg List.length g1
    refine d_dict (ps := l) (PA (fun j => (Tl[j]?).getD 0) pv) (I.ok.hd R.calm) (by have := R.un; omega) ⟨pl, ?_, fun j k v hj => ?_⟩ hln (by omega) (fun i key v hi => ?_) (fun x hx => g2 x hx) fun h' t de hk' => ?_
    · rw [h1, List.size_toArray, List.length_map, h2, h3]
    · have hjl : j < Tl.length := by
        have := (List.getElem?_eq_some_iff.mp hj).1
        omega
      refine ⟨?_, .inl (h4 j _ k v (by show Tl[j]? = some ((Tl[j]?).getD 0); rw [List.getElem?_eq_getElem hjl]; rfl) hj)⟩
      rw [h1]
      simp [hjl]
    · have hi' : pv[i]? = some (key, v) := hi
      rw [← g1, List.getElem?_map] at hi'
      obtain ⟨y, y1, y2⟩ := Option.map_eq_some_iff.mp hi'
      exact ⟨y.1, by rw [y1]; exact congrArg some (by rw [← y2])⟩
    · have hf : H s.heap.objs.size = none := I.hok.fresh (Nat.le_refl _)
      refine ⟨.ref s.heap.objs.size, upd H s.heap.objs.size (dO X.w s.heap.objs.size es'), I.laid (t' := t) hk' (Nat.le_refl _) (dO_of de g3 ?_ ?_), rfl, q _ _ hf g4⟩
      · exact beq_eq_false_iff_ne.mpr (Ne.symm (Nat.ne_of_lt I.big))
      · have : es'.length ≤ 0 + ps.length := g5
        omega
  rcases hd with rfl | rfl
  · obtain ⟨a, vs, rfl, _, e, rd⟩ := hx.listE
    cases rx
    obtain ⟨_, its, n, rv, eo⟩ := I.hok _ _ e
    exact core rd rv (fun Tl pv => PySem.PairArg.list a its.toArray Tl pv) ⟨_, n, eo, rfl, rfl, rfl⟩
  · obtain ⟨a, o, vs, rfl, e, nd, rd⟩ := hx.tupE
    cases rx
    obtain ⟨eo, _, its, rv, o2, eo2, c2, n2, dd2⟩ := I.hok _ _ e
    rw [eo] at eo2
    cases eo2
    exact core rd rv (fun Tl pv => PySem.PairArg.tuple a its.toArray Tl pv) ⟨_, n2, eo, c2, nd, dd2⟩
end
end Os
end
section
set_option linter.all false
set_option maxRecDepth 100000
set_option maxHeartbeats 4000000
/-! OsE: further built-ins by data; the names of built-ins. -/
namespace Os
open PySem PySem.Spec PyProof.Rows L2

def b1V : B1 → Value
  | .len => .builtin "len"
  | .tuple => .type "tuple"
  | .list => .type "list"
  | .sorted => .builtin "sorted"
  | .repr => .builtin "repr"
  | .int => .type "int"
  | .abs => .builtin "abs"
  | .sum => .builtin "sum"
  | .all => .builtin "all"
  | .any => .builtin "any"
  | .dict => .type "dict"
  | .max1 => .builtin "max"
  | .min1 => .builtin "min"
def b1N : B1 → Str
  | .len => "len"
  | .tuple => "tuple"
  | .list => "list"
  | .sorted => "sorted"
  | .repr => "repr"
  | .int => "int"
  | .abs => "abs"
  | .sum => "sum"
  | .all => "all"
  | .any => "any"
  | .dict => "dict"
  | .max1 => "max"
  | .min1 => "min"
def b2V : B2 → Value
  | .max => .builtin "max"
  | .min => .builtin "min"
def b2N : B2 → Str
  | .max => "max"
  | .min => "min"
def tyN : TY → Str
  | .int => "int"
  | .bool => "bool"
  | .str => "str"
  | .tuple => "tuple"
  | .list => "list"
  | .dict => "dict"
def tyS : TY → String
  | .int => "int"
  | .bool => "bool"
  | .str => "str"
  | .tuple => "tuple"
  | .list => "list"
  | .dict => "dict"
/-- the built-ins that may be asked -/
def bNames : List Str := ["len", "tuple", "list", "sorted", "repr", "int", "abs", "sum", "all", "any", "max", "min", "bool", "str", "dict", "isinstance", "range", "enumerate", "zip", "set"]
theorem b1_mem (f : B1) : b1N f ∈ bNames := by cases f <;> decide +kernel
theorem b2_mem (f : B2) : b2N f ∈ bNames := by cases f <;> decide +kernel
theorem ty_mem (f : TY) : tyN f ∈ bNames := by cases f <;> decide +kernel
theorem b1_boot (f : B1) : bootBuiltins (b1N f) = some (b1V f) := by cases f <;> rfl
theorem b2_boot (f : B2) : bootBuiltins (b2N f) = some (b2V f) := by cases f <;> rfl
theorem ty_boot (f : TY) : bootBuiltins (tyN f) = some (.type (tyS f)) := by cases f <;> rfl
theorem b1_nn (f : B1) : b1N f ≠ "__name__" := by cases f <;> decide +kernel
theorem b2_nn (f : B2) : b2N f ≠ "__name__" := by cases f <;> decide +kernel
theorem ty_nn (f : TY) : tyN f ≠ "__name__" := by cases f <;> decide +kernel
theorem b1_nd (f : B1) : (b1N f == ("__debug__" : Str)) = false := by cases f <;> decide +kernel
theorem b2_nd (f : B2) : (b2N f == ("__debug__" : Str)) = false := by cases f <;> decide +kernel
theorem ty_nd (f : TY) : (tyN f == ("__debug__" : Str)) = false := by cases f <;> decide +kernel

section
variable {X : Cx}
theorem call_lenO (R : XR X) : CallR X (.builtin "len") (rB1 X.w (dB1 .len)) := by
  intro pins s σ H xs us Q I r ⟨x, ex, G, dx, d, hx, hd, q⟩
  subst ex
  cases hx with
  | list g e r' =>
    cases hd
    exact call_len pins s σ H _ us Q I r ⟨_, _, rfl, .inl ⟨_, SqL.of e, rfl⟩, by rw [r'.length]; exact q _ _ (Same.refl H) (.int _)⟩
  | tup e n r' =>
    cases hd
    exact call_len pins s σ H _ us Q I r ⟨_, _, rfl, .inr ⟨_, SqT.fz e, rfl⟩, by rw [r'.length]; exact q _ _ (Same.refl H) (.int _)⟩
  | str z =>
    simp only [dB1] at hd
    split at hd
    · cases hd
      exact call_len pins s σ H _ us Q I r ⟨_, _, rfl, ⟨by assumption, rfl⟩, q _ _ (Same.refl H) (.int _)⟩
    · cases hd
  | dict g e r1 r2 r3 =>
    cases hd
    exact call_lenD R pins s σ H _ us Q I r ⟨_, G, _, rfl, .dict g e r1 r2 r3, q _ _ (Same.refl H) (.int _)⟩
  | _ => cases hd
theorem call_tupleO : CallR X (.type "tuple") (rB1 X.w (dB1 .tuple)) := by
  intro pins s σ H xs us Q I r ⟨x, ex, G, dx, d, hx, hd, q⟩
  subst ex
  cases hx with
  | list g e r' =>
    cases hd
    exact call_tupleF pins s σ H _ us Q I r ⟨_, _, rfl, .inl ⟨SqL.of e, fun p o hp ho => q _ _ (same_new hp) (Dat.newT hp ho r')⟩⟩
  | tup e n r' =>
    cases hd
    exact call_tupleF pins s σ H _ us Q I r ⟨_, _, rfl, .inr ⟨SqT.fz e, q _ _ (Same.refl H) (Dat.weak (.tup e n r'))⟩⟩
  | _ => cases hd
theorem call_listO : CallR X (.type "list") (fun xs H Q => ∃ x, xs = [x] ∧ ∃ G dx ds, Dat X.w G H x dx ∧ seqOf dx = some ds ∧ ∀ p vs, H p = none → Dats X.w G H vs ds → Q (.ref p) (upd H p (.lst vs))) := by
  intro pins s σ H xs us Q I r ⟨x, ex, G, dx, ds, hx, hd, q⟩
  subst ex
  cases hx with
  | list g e r' =>
    cases hd
    exact call_list_of pins s σ H _ us Q I r ⟨_, _, rfl, .inl (SqL.of e), fun p hp => q p _ hp r'⟩
  | tup e n r' =>
    cases hd
    exact call_list_of pins s σ H _ us Q I r ⟨_, _, rfl, .inr (SqT.fz e), fun p hp => q p _ hp r'⟩
  | _ => cases hd
theorem call_intO : CallR X (.type "int") (rB1 X.w (dB1 .int)) := by
  intro pins s σ H xs us Q I r ⟨x, ex, G, dx, d, hx, hd, q⟩
  subst ex
  cases hx with
  | int i =>
    cases hd
    exact call_int1 pins s σ H _ us Q I r (.inl ⟨_, rfl, q _ _ (Same.refl H) (.int _)⟩)
  | bool i =>
    cases hd
    exact call_int1 pins s σ H _ us Q I r (.inr ⟨_, rfl, q _ _ (Same.refl H) (.int _)⟩)
  | _ => cases hd
theorem call_absO : CallR X (.builtin "abs") (rB1 X.w (dB1 .abs)) := by
  intro pins s σ H xs us Q I r ⟨x, ex, G, dx, d, hx, hd, q⟩
  subst ex
  cases hx with
  | int i =>
    cases hd
    exact call_abs pins s σ H _ us Q I r ⟨_, rfl, q _ _ (Same.refl H) (.int _)⟩
  | _ => cases hd
theorem call_sumO (R : XR X) : CallR X (.builtin "sum") (rB1 X.w (dB1 .sum)) := by
  intro pins s σ H xs us Q I r ⟨x, ex, G, dx, d, hx, hd, q⟩
  subst ex
  cases hx with
  | list g e r' =>
    obtain ⟨ns, h1, rfl⟩ := map_some hd
    have ev := ints_of r' h1
    subst ev
    exact cr_sum R.calm pins s σ H _ us Q I r ⟨_, ns, rfl, SqL.of e, q _ _ (Same.refl H) (.int _)⟩
  | _ => cases hd
theorem call_allO (R : XR X) : CallR X (.builtin "all") (rB1 X.w (dB1 .all)) := by
  intro pins s σ H xs us Q I r ⟨x, ex, G, dx, d, hx, hd, q⟩
  subst ex
  cases hx with
  | list g e r' =>
    obtain ⟨ns, h1, rfl⟩ := map_some hd
    have ev := bools_of r' h1
    subst ev
    exact cr_all R.calm pins s σ H _ us Q I r ⟨_, ns, rfl, SqL.of e, q _ _ (Same.refl H) (.bool _)⟩
  | _ => cases hd
theorem call_anyO (R : XR X) : CallR X (.builtin "any") (rB1 X.w (dB1 .any)) := by
  intro pins s σ H xs us Q I r ⟨x, ex, G, dx, d, hx, hd, q⟩
  subst ex
  cases hx with
  | list g e r' =>
    obtain ⟨ns, h1, rfl⟩ := map_some hd
    have ev := bools_of r' h1
    subst ev
    exact cr_any R.calm pins s σ H _ us Q I r ⟨_, ns, rfl, SqL.of e, q _ _ (Same.refl H) (.bool _)⟩
  | _ => cases hd
theorem max_eq {ns : List Int} {m m' : Int} (h : ns.max? = some m) (h1 : m' ∈ ns) (h2 : ∀ y, y ∈ ns → y ≤ m') : m' = m := by
  have := List.max?_mem (a := m) h
  have h3 := (List.max?_le_iff (x := m) h).mp (Int.le_refl m) m' h1
  have h4 := h2 m this
  omega
theorem min_eq {ns : List Int} {m m' : Int} (h : ns.min? = some m) (h1 : m' ∈ ns) (h2 : ∀ y, y ∈ ns → m' ≤ y) : m' = m := by
  have := List.min?_mem (a := m) h
  have h3 := (List.le_min?_iff (x := m) h).mp (Int.le_refl m) m' h1
  have h4 := h2 m this
  omega
theorem max_intTup {prog : Program} {w : World} {A : Around} {E : Value → Shared → Prop} {s : Shared} {l : Addr} {xs : Array (Int × Tok)} {Q : Value → Shared → Prop} (hh : A.handled = none) (hl : s.heap.IsTuple l (intItems xs)) (hne : 0 < xs.size)
    (h : ∀ v h' tk, (intItems xs)[argBest (fun i j => decide (numAt xs i > numAt xs j)) (xs.size - 1)]? = some v → (∀ b o, s.heap.get? b = some o → h'.get? b = some o) → Q v { s with heap := h', toks := tk }) :
    wpAny (model prog w) A (call (.builtin "max") [.ref l]) Q E s := by
  refine call_max_walkH (PySem.W.iter_tupleW (A := A.in1) hh hl fun s₂ e W st hfp hw hk => ?_)
  refine ⟨_, _, _, _, _, _, _, s.heap, _, rfl, W, st, hfp, by simpa [intItems] using hne, hw, hk, (fun i j vi vj s3 Q3 E3 _ hi hj hq => CmpOf.ints_gt (P := fun i v => (intItems xs)[i]? = some v) (numAt xs) (fun _ _ => intItems_at) i j vi vj s3 Q3 E3 hi hj hq), fun v s' hP m => ?_⟩
  obtain ⟨h', tk, rfl, hk'⟩ := PySem.W.moved_old e rfl m
  exact h v h' tk (by simpa [intItems] using hP) hk'
theorem max_rawT {prog : Program} {w : World} {A : Around} {E : Value → Shared → Prop} {s : Shared} {l : Addr} {its : List Value} {ns : List Int} {Q : Value → Shared → Prop} (hh : A.handled = none) (hl : s.heap.IsTuple l its.toArray) (hi : IntsAre its ns) (hne : 0 < ns.length)
    (h : ∀ h' tk M t', (∀ b o, s.heap.get? b = some o → h'.get? b = some o) → M ∈ ns → (∀ a, a ∈ ns → a ≤ M) → Q (.int M t') { s with heap := h', toks := tk }) : wpAny (model prog w) A (call (.builtin "max") [.ref l]) Q E s := by
  obtain ⟨xs, e⟩ := hi.allInts.items
  have hn : numsOf (intItems xs).toList = ns := by rw [← e]; exact hi.numsOf
  rw [nums_intItems] at hn
  subst hn
  rw [e] at hl
  have hsz : 0 < xs.size := by simpa using hne
  refine max_intTup hh hl hsz fun v h' tk hv hk => ?_
  obtain ⟨t, rfl⟩ := intItems_at hv
  obtain ⟨h1, h2⟩ := argBest_gt (numAt xs) (xs.size - 1)
  refine h h' tk _ t hk ?_ fun a ha => ?_
  · rw [numAt_eq]; exact PySem.getD_mem (by rw [List.length_map, Array.length_toList]; omega)
  · obtain ⟨j, hj, rfl⟩ := mem_getD ha
    rw [List.length_map, Array.length_toList] at hj
    rw [← numAt_eq]; exact h2 j (by omega)
theorem call_max1O (R : XR X) : CallR X (.builtin "max") (rB1 X.w (dB1 .max1)) := by
  intro pins s σ H xs us Q I r ⟨x, ex, G, dx, d, hx, hd, q⟩
  subst ex
  cases hx with
  | list g e r' =>
    obtain ⟨ns, h1, h2⟩ := bind_some hd
    obtain ⟨m, h3, rfl⟩ := map_some h2
    have ev := ints_of r' h1
    subst ev
    refine cr_max R.calm pins s σ H _ us Q I r ⟨_, ns, rfl, SqL.of e, ?_, fun m' g1 g2 => ?_⟩
    · cases ns with
      | nil => cases h3
      | cons _ _ => exact Nat.succ_pos _
    · rw [max_eq h3 g1 g2]
      exact q _ _ (Same.refl H) (.int _)
  | tup e n r' =>
    obtain ⟨ns, h1, h2⟩ := bind_some hd
    obtain ⟨m, h3, rfl⟩ := map_some h2
    have ev := ints_of r' h1
    subst ev
    obtain ⟨its, rv, pl, _⟩ := I.tuple (SqT.fz e)
    rw [Vals.ref1 r]
    refine max_rawT (I.ok.hd R.calm) pl rv.ints ?_ fun h' tk m' t' hk g1 g2 => ⟨.int _, H, I.kept hk, ⟨_, rfl⟩, ?_⟩
    · cases ns with
      | nil => cases h3
      | cons _ _ => exact Nat.succ_pos _
    · rw [max_eq h3 g1 g2]
      exact q _ _ (Same.refl H) (.int _)
  | _ => cases hd
theorem min_intTup {prog : Program} {w : World} {A : Around} {E : Value → Shared → Prop} {s : Shared} {l : Addr} {xs : Array (Int × Tok)} {Q : Value → Shared → Prop} (hh : A.handled = none) (hl : s.heap.IsTuple l (intItems xs)) (hne : 0 < xs.size)
    (h : ∀ v h' tk, (intItems xs)[argBest (fun i j => decide (numAt xs i < numAt xs j)) (xs.size - 1)]? = some v → (∀ b o, s.heap.get? b = some o → h'.get? b = some o) → Q v { s with heap := h', toks := tk }) :
    wpAny (model prog w) A (call (.builtin "min") [.ref l]) Q E s := by
  refine call_min_walkH (PySem.W.iter_tupleW (A := A.in1) hh hl fun s₂ e W st hfp hw hk => ?_)
  refine ⟨_, _, _, _, _, _, _, s.heap, _, rfl, W, st, hfp, by simpa [intItems] using hne, hw, hk, (fun i j vi vj s3 Q3 E3 _ hi hj hq => CmpOf.ints_lt (P := fun i v => (intItems xs)[i]? = some v) (numAt xs) (fun _ _ => intItems_at) i j vi vj s3 Q3 E3 hi hj hq), fun v s' hP m => ?_⟩
  obtain ⟨h', tk, rfl, hk'⟩ := PySem.W.moved_old e rfl m
  exact h v h' tk (by simpa [intItems] using hP) hk'
theorem min_rawT {prog : Program} {w : World} {A : Around} {E : Value → Shared → Prop} {s : Shared} {l : Addr} {its : List Value} {ns : List Int} {Q : Value → Shared → Prop} (hh : A.handled = none) (hl : s.heap.IsTuple l its.toArray) (hi : IntsAre its ns) (hne : 0 < ns.length)
    (h : ∀ h' tk M t', (∀ b o, s.heap.get? b = some o → h'.get? b = some o) → M ∈ ns → (∀ a, a ∈ ns → M ≤ a) → Q (.int M t') { s with heap := h', toks := tk }) : wpAny (model prog w) A (call (.builtin "min") [.ref l]) Q E s := by
  obtain ⟨xs, e⟩ := hi.allInts.items
  have hn : numsOf (intItems xs).toList = ns := by rw [← e]; exact hi.numsOf
  rw [nums_intItems] at hn
  subst hn
  rw [e] at hl
  have hsz : 0 < xs.size := by simpa using hne
  refine min_intTup hh hl hsz fun v h' tk hv hk => ?_
  obtain ⟨t, rfl⟩ := intItems_at hv
  obtain ⟨h1, h2⟩ := argBest_lt (numAt xs) (xs.size - 1)
  refine h h' tk _ t hk ?_ fun a ha => ?_
  · rw [numAt_eq]; exact PySem.getD_mem (by rw [List.length_map, Array.length_toList]; omega)
  · obtain ⟨j, hj, rfl⟩ := mem_getD ha
    rw [List.length_map, Array.length_toList] at hj
    rw [← numAt_eq]; exact h2 j (by omega)
theorem call_min1O (R : XR X) : CallR X (.builtin "min") (rB1 X.w (dB1 .min1)) := by
  intro pins s σ H xs us Q I r ⟨x, ex, G, dx, d, hx, hd, q⟩
  subst ex
  cases hx with
  | list g e r' =>
    obtain ⟨ns, h1, h2⟩ := bind_some hd
    obtain ⟨m, h3, rfl⟩ := map_some h2
    have ev := ints_of r' h1
    subst ev
    refine cr_min R.calm pins s σ H _ us Q I r ⟨_, ns, rfl, SqL.of e, ?_, fun m' g1 g2 => ?_⟩
    · cases ns with
      | nil => cases h3
      | cons _ _ => exact Nat.succ_pos _
    · rw [min_eq h3 g1 g2]
      exact q _ _ (Same.refl H) (.int _)
  | tup e n r' =>
    obtain ⟨ns, h1, h2⟩ := bind_some hd
    obtain ⟨m, h3, rfl⟩ := map_some h2
    have ev := ints_of r' h1
    subst ev
    obtain ⟨its, rv, pl, _⟩ := I.tuple (SqT.fz e)
    rw [Vals.ref1 r]
    refine min_rawT (I.ok.hd R.calm) pl rv.ints ?_ fun h' tk m' t' hk g1 g2 => ⟨.int _, H, I.kept hk, ⟨_, rfl⟩, ?_⟩
    · cases ns with
      | nil => cases h3
      | cons _ _ => exact Nat.succ_pos _
    · rw [min_eq h3 g1 g2]
      exact q _ _ (Same.refl H) (.int _)
  | _ => cases hd
theorem sys_new (w : World) {G : Addr → Prop} {H : Hp} {p : Addr} {es : List (NestedKey × V × V)} {kvs : List (D × D)} (h : H p = none) (r : DKV w G H es kvs) : Dat w (Up G H) (upd H p (dO w p es)) (.ref p) (.dict kvs) ∧ NewL w G H (upd H p (dO w p es)) (.ref p) (.dict kvs) := by
  refine ⟨Dat.ofD (.inr h) upd_same ((r.go fun vs ds z => z.same (same_new h)).go fun vs ds z => z.mono fun b q => .inl q), p, rfl, h, .inr ⟨es, kvs, rfl, upd_same, ?_⟩⟩
  exact r.go fun vs ds z => (z.live.same (same_new h)).mono fun b q => ⟨.inl q.1, fun e => q.2 (e ▸ h)⟩
/-- any built-in of one argument: a list that it gives is new -/
def rB1N (w : World) (f : B1) : List V → Hp → VK → Prop := fun xs H Q => ∃ x, xs = [x] ∧ ∃ G dx d, Dat w G H x dx ∧ dB1 f dx = some d ∧ ∀ v H', Same H H' → Dat w (Up G H) H' v d → ((f = .list ∨ f = .sorted ∨ f = .dict) → NewL w G H H' v d) → Q v H'
theorem call_b1 (R : XR X) (f : B1) : CallR X (b1V f) (rB1N X.w f) := by
  intro pins s σ H xs us Q I r ⟨x, ex, G, dx, d, hx, hd, q⟩
  cases f
  case list =>
    have hs : (∃ ds, seqOf dx = some ds ∧ d = .list ds) ∨ ∃ kvs, dx = .dict kvs ∧ d = .list (kvs.map (·.1)) := by
      cases dx <;> first | cases hd | skip
      · exact .inl ⟨_, rfl, rfl⟩
      · exact .inl ⟨_, rfl, rfl⟩
      · exact .inr ⟨_, rfl, rfl⟩
    rcases hs with ⟨ds, h1, rfl⟩ | ⟨kvs, rfl, rfl⟩
    case inr => exact call_listD R pins s σ H xs us Q I r ⟨x, G, kvs, ex, hx, fun p vs hp rv => q _ _ (same_new hp) (Dat.newL hp rv) fun _ => NewL.mk hp rv⟩
    exact call_listO pins s σ H xs us Q I r ⟨x, ex, G, dx, ds, hx, h1, fun p vs hp rv => q _ _ (same_new hp) (Dat.newL hp rv) fun _ => NewL.mk hp rv⟩
  case sorted =>
    obtain ⟨ds, rfl⟩ : ∃ ds, dx = .list ds := by
      cases dx <;> first | exact ⟨_, rfl⟩ | cases hd
    replace hd := map_some (show (dSorted ds).map PyData.list = some d from hd)
    obtain ⟨bs, hd, rfl⟩ := hd
    exact call_sortedO R pins s σ H xs us Q I r ⟨x, ex, G, ds, bs, hx, hd, fun p vs hp rv => q _ _ (same_new hp) (Dat.newL hp rv) fun _ => NewL.mk hp rv⟩
  case dict =>
    have hs : ∃ ds ps kvs, (dx = .list ds ∨ dx = .tuple ds) ∧ ds.length ≤ sizeLine ∧ pairsOf ds = some ps ∧ dictOf [] ps = some kvs ∧ d = .dict kvs := by
      cases dx <;> first | cases hd | skip
      all_goals
        rename_i ds
        simp only [dB1] at hd
        split at hd
        · obtain ⟨kvs, h1, rfl⟩ := map_some hd
          obtain ⟨ps, h2, h3⟩ := bind_some h1
          exact ⟨ds, ps, kvs, by simp, by assumption, h2, h3, rfl⟩
        · cases hd
    obtain ⟨ds, ps, kvs, h0, h1, h2, h3, rfl⟩ := hs
    exact call_dictD R pins s σ H xs us Q I r ⟨x, G, dx, ds, ps, kvs, ex, hx, h0, h1, h2, h3, fun p es hp rv => q _ _ (same_new hp) (sys_new _ hp rv).1 fun _ => (sys_new _ hp rv).2⟩
  case max1 => exact call_max1O R pins s σ H xs us Q I r ⟨x, ex, G, dx, d, hx, hd, fun v H' k dd => q v H' k dd fun z => by rcases z with z | z | z <;> cases z⟩
  case min1 => exact call_min1O R pins s σ H xs us Q I r ⟨x, ex, G, dx, d, hx, hd, fun v H' k dd => q v H' k dd fun z => by rcases z with z | z | z <;> cases z⟩
  case len => exact call_lenO R pins s σ H xs us Q I r ⟨x, ex, G, dx, d, hx, hd, fun v H' k dd => q v H' k dd fun z => by rcases z with z | z | z <;> cases z⟩
  case tuple => exact call_tupleO pins s σ H xs us Q I r ⟨x, ex, G, dx, d, hx, hd, fun v H' k dd => q v H' k dd fun z => by rcases z with z | z | z <;> cases z⟩
  case repr => exact call_reprO R pins s σ H xs us Q I r ⟨x, ex, G, dx, d, hx, hd, fun v H' k dd => q v H' k dd fun z => by rcases z with z | z | z <;> cases z⟩
  case int => exact call_intO pins s σ H xs us Q I r ⟨x, ex, G, dx, d, hx, hd, fun v H' k dd => q v H' k dd fun z => by rcases z with z | z | z <;> cases z⟩
  case abs => exact call_absO pins s σ H xs us Q I r ⟨x, ex, G, dx, d, hx, hd, fun v H' k dd => q v H' k dd fun z => by rcases z with z | z | z <;> cases z⟩
  case sum => exact call_sumO R pins s σ H xs us Q I r ⟨x, ex, G, dx, d, hx, hd, fun v H' k dd => q v H' k dd fun z => by rcases z with z | z | z <;> cases z⟩
  case all => exact call_allO R pins s σ H xs us Q I r ⟨x, ex, G, dx, d, hx, hd, fun v H' k dd => q v H' k dd fun z => by rcases z with z | z | z <;> cases z⟩
  case any => exact call_anyO R pins s σ H xs us Q I r ⟨x, ex, G, dx, d, hx, hd, fun v H' k dd => q v H' k dd fun z => by rcases z with z | z | z <;> cases z⟩

def rB2 (w : World) (f : B2) : List V → Hp → VK → Prop := fun xs H Q => ∃ x y, xs = [x, y] ∧ rD2 w (dB2 f) x y H Q
theorem call_b2 (R : XR X) (f : B2) : CallR X (b2V f) (rB2 X.w f) := by
  intro pins s σ H xs us Q I r ⟨x, y, ex, G, dx, dy, d, hx, hy, hd, q⟩
  subst ex
  unfold dB2 at hd
  split at hd
  · cases hd
    obtain rfl := hx.intE
    obtain rfl := hy.intE
    exact call_max2 R.calm pins s σ H _ us Q I r ⟨_, _, rfl, q _ _ (Same.refl H) (.int _)⟩
  · cases hd
    obtain rfl := hx.intE
    obtain rfl := hy.intE
    exact call_min2 R.calm pins s σ H _ us Q I r ⟨_, _, rfl, q _ _ (Same.refl H) (.int _)⟩
  · cases hd

/-! ### isinstance -/
def dTy : D → String
  | .none => "NoneType"
  | .bool _ => "bool"
  | .int _ => "int"
  | .str _ => "str"
  | .list _ => "list"
  | .tuple _ => "tuple"
  | .dict _ => "dict"
theorem kit_d (t : TY) : ∀ d : D, kitB (dTy d) (tyS t) = some (isTy t d)
  | .none => by cases t <;> rfl
  | .bool _ => by cases t <;> rfl
  | .int _ => by cases t <;> rfl
  | .str _ => by cases t <;> rfl
  | .list _ => by cases t <;> rfl
  | .tuple _ => by cases t <;> rfl
  | .dict _ => by cases t <;> rfl
theorem kit_of_dat {pins : List (Addr × Obj)} {σ : L2.St} {H : Hp} {s : Shared} {G : Addr → Prop} {v : V} {u : Value} {d : D} (I : Inv X pins σ H s) (r : Dat X.w G H v d) (rx : RelV v u) :
    ∃ P : Heap → Prop, PySem.W.KitX X.K u (.type (dTy d)) P ∧ P s.heap ∧ u ≠ .builtin "__main__.__loader__#opaque" := by
  cases r with
  | none => exact kit_of I rx (.base .non)
  | bool b => exact kit_of I rx (.base (.bl b))
  | int i => exact kit_of I rx (.base (.int i))
  | str x => exact kit_of I rx (.base (.str x))
  | list g e r => exact kit_of I rx (.base (.lst e))
  | tup e n r => exact kit_of I rx (.fTuple e)
  | dict g e r q k =>
    cases rx
    obtain ⟨⟨_, _, o, ds, ep, eo, ed, dd, pr, _⟩, _, _⟩ := I.hok _ _ e
    exact ⟨_, PySem.W.kitx_dict, ⟨o, eo, ed.1⟩, fun z => nomatch z⟩
theorem call_isiO (t : TY) : CallR X (.builtin "isinstance") (fun xs H Q => ∃ x G d, xs = [x, .ty (tyS t)] ∧ Dat X.w G H x d ∧ Q (.bl (isTy t d)) H) := by
  intro pins s σ H xs us Q I r h
  obtain ⟨x, G, d, rfl, hx, q⟩ := h
  obtain ⟨u1, u2, rfl, r1, r2⟩ := vals2 r
  cases (show u2 = Value.type (tyS t) from r2)
  obtain ⟨P, Z, p, hn⟩ := kit_of_dat I hx r1
  exact PySem.W.kia_one Z I.kIn p (kit_ty (kit_d t d)) hn fun tk => ⟨.bl _, H, I.tok tk, rfl, q⟩

/-! ### methods -/
theorem keysOf_length : ∀ {ds : List D} {ks : List NestedKey}, keysOf ds = some ks → ks.length = ds.length
  | [], _, h => by
    cases h
    rfl
  | x :: xs, _, h => by
    rw [keysOf, Option.bind_eq_some_iff] at h
    obtain ⟨k', e1, e2⟩ := h
    obtain ⟨ks', e3, rfl⟩ := Option.map_eq_some_iff.mp e2
    simp [keysOf_length e3]
def m1N : M1 → Str
  | .index => "index"
  | .get => "get"
  | .count => "count"
  | .join => "join"
def m2N : M2 → Str
  | .get => "get"
/-- who answers -/
def mId : Str → D → Option (String × String)
  | f, .list _ => if f = "index" then some ("list", "list.index") else if f = "count" then some ("list", "list.count") else none
  | f, .tuple _ => if f = "index" then some ("tuple", "tuple.index") else none
  | f, .dict _ => if f = "get" then some ("dict", "dict.get") else none
  | f, .str _ => if f = "index" then some ("str", "str.index") else if f = "join" then some ("str", "str.join") else none
  | _, _ => none
theorem m1_id {f : M1} {x y d : D} (h : dM1 f x y = some d) : ∃ T id, mId (m1N f) x = some (T, id) := by
  cases f <;> cases x <;> first | exact ⟨_, _, rfl⟩ | (simp [dM1, dIndex, dJoin] at h)
theorem m2_id {f : M2} {x y z d : D} (h : dM2 f x y z = some d) : ∃ T id, mId (m2N f) x = some (T, id) := by
  cases f
  unfold dM2 at h
  split at h
  · exact ⟨_, _, rfl⟩
  · cases h
theorem m_recv {pins : List (Addr × Obj)} {σ : L2.St} {H : Hp} {s : Shared} {G : Addr → Prop} {v : V} {u : Value} {d : D} {f : Str} {T id : String} (I : Inv X pins σ H s) (r : Dat X.w G H v d) (rx : RelV v u) (h : mId f d = some (T, id)) :
    PlainAttrs T ∧ PySem.Slot T f id ∧ typeOf (.builtin id) = pure (.type "method_descriptor") ∧ s.TypeIs u T ∧ (∀ a, u = .ref a → ∃ ob, s.heap.get? a = some ob ∧ ob.dict = none) := by
  cases r with
  | list g e r =>
    simp only [mId] at h
    split at h
    · rename_i hf
      cases h
      subst hf
      cases rx
      obtain ⟨_, its, n, rv, eo⟩ := I.hok _ _ e
      exact ⟨PySem.F.plainAttrs_list, PySem.F.slot_list_index, PySem.F.type_list_index, ⟨_, eo, rfl⟩, fun a' e' => by cases e'; exact ⟨_, eo, rfl⟩⟩
    · split at h
      · rename_i hf
        cases h
        subst hf
        cases rx
        obtain ⟨_, its, n, rv, eo⟩ := I.hok _ _ e
        exact ⟨PySem.F.plainAttrs_list, PySem.F.slot_list_count, PySem.F.type_list_count, ⟨_, eo, rfl⟩, fun a' e' => by cases e'; exact ⟨_, eo, rfl⟩⟩
      · cases h
  | tup e n r =>
    simp only [mId] at h
    split at h
    · rename_i hf
      cases h
      subst hf
      cases rx
      obtain ⟨eo, _, its, rv, o2, eo2, c2, n2, dd2⟩ := I.hok _ _ e
      rw [eo] at eo2
      cases eo2
      exact ⟨PySem.F.plainAttrs_tuple, PySem.F.slot_tuple_index, PySem.F.type_tuple_index, ⟨_, eo, c2⟩, fun a' e' => by cases e'; exact ⟨_, eo, n⟩⟩
    · cases h
  | dict g e r1 r2 r3 =>
    simp only [mId] at h
    split at h
    · rename_i hf
      cases h
      subst hf
      cases rx
      obtain ⟨⟨_, _, o, ds, ep, eo, ed, _⟩, _, _⟩ := I.hok _ _ e
      exact ⟨PySem.F.plainAttrs_dict, PySem.F.slot_dict_get, PySem.F.type_dict_get, ⟨_, eo, ed.1⟩, fun a' e' => by cases e'; exact ⟨_, eo, ed.2.1⟩⟩
    · cases h
  | str z =>
    simp only [mId] at h
    split at h
    · rename_i hf
      cases h
      subst hf
      obtain ⟨t, rfl⟩ := rx
      exact ⟨PySem.F.plainAttrs_str, PySem.F.slot_str_index, PySem.F.type_str_index, typeIs_str _ _ _, fun a' e' => by cases e'⟩
    · split at h
      · rename_i hf
        cases h
        subst hf
        obtain ⟨t, rfl⟩ := rx
        exact ⟨PySem.F.plainAttrs_str, PySem.F.slot_str_join, PySem.F.type_str_join, typeIs_str _ _ _, fun a' e' => by cases e'⟩
      · cases h
  | _ => cases h
theorem countP_data {h : Heap} {vs : Array Value} {xs : List PyData} {as : List Addr} {d : PyData} (rs : ReadsAll h vs.toList xs as) (hxs : PyData.canLayAll0 xs = true) :
    vs.toList.countP (fun y => PyData.eqv (SeqAt.readOf h y) d) = xs.countP (fun y => PyData.eqv y d) := by
  rw [← SeqAt.readsAll_map xs _ _ hxs rs, List.countP_map]
  rfl
theorem m1_call (R : XR X) {f : M1} {pins : List (Addr × Obj)} {σ : L2.St} {H : Hp} {s : Shared} {G : Addr → Prop} {x y : V} {u v : Value} {dx dy d : D} {Q : VK} {T id : String} (I : Inv X pins σ H s) (hx : Dat X.w G H x dx) (rx : RelV x u) (hy : Dat X.w G H y dy) (ry : RelV y v) (hd : dM1 f dx dy = some d)
    (hm : mId (m1N f) dx = some (T, id)) (q : ∀ v H', Same H H' → Dat X.w (Up G H) H' v d → Q v H') : wpAny (model X.prog X.w) X.A (call (.builtin id) [u, v]) (EP X pins σ Q) X.xe s := by
  cases f
  · replace hd : dIndex dx dy = some d := hd
    unfold dIndex at hd
    split at hd
    · rename_i ds dz
      cases hm
      split at hd
      · rename_i ks k h1 h2
        split at hd
        · rename_i hc
          cases hd
          obtain ⟨a, o, vs, rfl, e, _, rd⟩ := hx.tupE
          cases rx
          obtain ⟨_, _, its, rv, o2, eo, c, n, dd⟩ := I.hok _ _ e
          have ht : s.heap.IsTuple a its.toArray := ⟨o2, eo, c, n, dd⟩
          refine PySem.SeqAt.call_tuple_index ht (PySem.SeqAt.ItemsEq.nested (Dats.nested I.hok rd rv h1) (Dat.nested I.hok hy ry h2) ?_) hc.1 ⟨.int _, H, I.tok _, ⟨_, rfl⟩, q _ _ (Same.refl H) (.int _)⟩
          have := R.un
          have := hc.2.1
          show X.A.units + 1 + k.depth < cLine
          omega
        · cases hd
      · cases hd
    · rename_i ds dz
      cases hm
      split at hd
      · rename_i ks k h1 h2
        split at hd
        · rename_i hc
          cases hd
          obtain ⟨a, vs, rfl, _, e, rd⟩ := hx.listE
          cases rx
          obtain ⟨_, its, n, rv, eo⟩ := I.hok _ _ e
          have ht : s.heap.IsList a its.toArray := ⟨_, eo, rfl, n, rfl⟩
          refine PySem.SeqAt.call_list_index ht (PySem.SeqAt.ItemsEq.nested (Dats.nested I.hok rd rv h1) (Dat.nested I.hok hy ry h2) ?_) (by rw [keysOf_length h1]; exact hc.2.2) hc.1 ⟨.int _, H, I.tok _, ⟨_, rfl⟩, q _ _ (Same.refl H) (.int _)⟩
          have := R.un
          have := hc.2.1
          show X.A.units + 1 + k.depth < cLine
          omega
        · cases hd
      · cases hd
    · rename_i z y
      cases hm
      split at hd
      · rename_i i rest ho
        cases hd
        obtain rfl := hx.strE
        obtain rfl := hy.strE
        obtain ⟨t, rfl⟩ := rx
        obtain ⟨t2, rfl⟩ := ry
        exact PySem.SC.index ho ⟨.int (i : Nat), H, I.tok _, ⟨_, rfl⟩, q _ _ (Same.refl H) (.int _)⟩
      · cases hd
    · cases hd
  · obtain ⟨kvs, rfl⟩ : ∃ kvs, dx = .dict kvs := by cases dx <;> first | exact ⟨_, rfl⟩ | cases hd
    · cases hm
      obtain ⟨k, hk, rfl⟩ := map_some (show (keyD dy).map (fun kk => (kvAt kvs kk).getD .none) = some d from hd)
      obtain ⟨a, es, rfl, _, e, dd⟩ := hx.dictE
      cases rx
      obtain ⟨hk1, hk2⟩ := keyD_key hk
      obtain ⟨xs, x, qx, hs, hz⟩ := de_of I.hok e dd
      refine d_get1 (by have := R.un; omega) (Dat.nested I.hok hy ry hk1) hk2 hs x fun t => ?_
      obtain ⟨r1, r2⟩ := at_rel (k := k) dd qx
      cases e1 : kvAt kvs k with
      | none =>
        rw [r1 e1]
        rw [e1] at q
        exact ⟨.non, H, I.tok _, rfl, q _ _ (Same.refl H) .none⟩
      | some z =>
        obtain ⟨u', v', h1, h2, h3⟩ := r2 z e1
        rw [h1]
        rw [e1] at q
        exact ⟨v', H, I.tok _, h2, q _ _ (Same.refl H) h3.weak⟩
  · obtain ⟨ds, rfl⟩ : ∃ ds, dx = .list ds := by cases dx <;> first | exact ⟨_, rfl⟩ | cases hd
    cases hm
    replace hd : (if SeqAt.shaped dy = true ∧ SeqAt.shaped (.list ds) = true then some (PyData.int (ds.countP (fun x => PyData.eqv x dy) : Nat)) else none) = some d := hd
    split at hd
    · cases hd
      rename_i hc
      obtain ⟨as, ra⟩ := reads_of I hx rx
      obtain ⟨bs, rb⟩ := reads_of I hy ry
      obtain ⟨a, vs, rfl, _, e, rd⟩ := hx.listE
      cases rx
      obtain ⟨_, its, n, rv, eo⟩ := I.hok _ _ e
      cases ra with
      | list g1 g2 g3 g4 =>
        rw [eo] at g1
        cases g1
        cases g3
        have hu : X.A.units + 1 + min (PyData.depthAll ds) dy.depth < cLine := room_in_shaped hc.1 (by have := R.un; omega)
        refine call_meets PySem.F.slot_list_count ⟨_, eo, rfl⟩ PySem.F.entry_list_count (PySem.F.args_list_count_2 _ _) (SeqAt.list_countAt a its.toArray n none #[] v fun y => PyData.eqv (SeqAt.readOf s.heap y) dy) ⟨eo, SeqAt.items_eqAt g4 rb (shaped_items.1 hc.2) (SeqAt.canLay_of_shaped hc.1) hu, ?_⟩
        rw [countP_data g4 (shaped_items.1 hc.2)]
        exact ⟨.int _, H, I.tok _, ⟨_, rfl⟩, q _ _ (Same.refl H) (.int _)⟩
    · cases hd
  · obtain ⟨z, xs, ys, rfl, rfl, e3, hz, rfl⟩ : ∃ z xs ys, dx = .str z ∧ dy = .list xs ∧ strsOf xs = some ys ∧ (ys.map (·.length)).sum + ys.length * z.length ≤ 16777216 ∧ d = .str (Txt.join z ys) := by
      replace hd : dJoin dx dy = some d := hd
      unfold dJoin at hd
      split at hd
      · split at hd
        · split at hd
          · cases hd
            exact ⟨_, _, _, rfl, rfl, by assumption, by assumption, rfl⟩
          · cases hd
        · cases hd
      · cases hd
    cases hm
    obtain rfl := hx.strE
    obtain ⟨b, vs, rfl, _, eb, rb⟩ := hy.listE
    have ev := strs_of rb e3
    subst ev
    exact mt_join pins s σ H _ [.ref b] u [v] Q I rx (.cons ry .nil) ⟨z, b, ys, rfl, rfl, .inl (SqL.of eb), hz, q _ _ (Same.refl H) (.str _)⟩
theorem m2_call (R : XR X) {f : M2} {pins : List (Addr × Obj)} {σ : L2.St} {H : Hp} {s : Shared} {G : Addr → Prop} {x y z : V} {u v t : Value} {dx dy dz d : D} {Q : VK} {T id : String} (I : Inv X pins σ H s) (hx : Dat X.w G H x dx) (rx : RelV x u) (hy : Dat X.w G H y dy) (ry : RelV y v) (hz : Dat X.w G H z dz) (rz : RelV z t)
    (hd : dM2 f dx dy dz = some d) (hm : mId (m2N f) dx = some (T, id)) (q : ∀ v H', Same H H' → Dat X.w (Up G H) H' v d → Q v H') : wpAny (model X.prog X.w) X.A (call (.builtin id) [u, v, t]) (EP X pins σ Q) X.xe s := by
  cases f
  obtain ⟨kvs, rfl⟩ : ∃ kvs, dx = .dict kvs := by cases dx <;> first | exact ⟨_, rfl⟩ | cases hd
  · cases hm
    obtain ⟨k, hk, rfl⟩ := map_some (show (keyD dy).map (fun kk => (kvAt kvs kk).getD dz) = some d from hd)
    obtain ⟨a, es, rfl, _, e, dd⟩ := hx.dictE
    cases rx
    obtain ⟨hk1, hk2⟩ := keyD_key hk
    obtain ⟨xs, x, qx, hs, hz'⟩ := de_of I.hok e dd
    refine d_get2 (by have := R.un; omega) (Dat.nested I.hok hy ry hk1) hk2 hs x fun t => ?_
    obtain ⟨r1, r2⟩ := at_rel (k := k) dd qx
    cases e1 : kvAt kvs k with
    | none =>
      rw [r1 e1]
      rw [e1] at q
      exact ⟨z, H, I.tok _, rz, q _ _ (Same.refl H) hz.weak⟩
    | some z =>
      obtain ⟨u', v', h1, h2, h3⟩ := r2 z e1
      rw [h1]
      rw [e1] at q
      exact ⟨v', H, I.tok _, h2, q _ _ (Same.refl H) h3.weak⟩
end
end Os
end
section
set_option linter.all false
set_option maxRecDepth 100000
set_option maxHeartbeats 4000000
/-! OyG: sorted(set(xs)), xs whole numbers. -/
namespace Os
open PySem PySem.Spec PySem.Calls PyProof.Rows L2

section
variable {P : Program} {w : World} {A : Around} {E : Value → Shared → Prop} {s : Shared}
/-- a new set's object -/
abbrev nset (w : World) : Obj := { cls := .type "set", dict := none, data := .set #[] 0 (.fresh 0 0 (!w.params.followText "set-order")) }
/-- where it stands, and what is behind it -/
abbrev hset (w : World) (h : Heap) : Heap := h.push (nset w)
theorem hset_at (h : Heap) : (hset w h).get? h.objs.size = some (nset w) := Heap.get?_push_size _ rfl
set_option maxHeartbeats 8000000 in
theorem set_of_list {l : Addr} {xs : Array Value} (ns : List Int) {Q : Value → Shared → Prop} (hh : A.handled = none) (hl : s.heap.IsList l xs) (hi : IntsAre xs.toList ns) (room : ns.length + 1 < scanBound)
    (k : ∀ (h2 : Heap) (tk c : Nat), SetR w h2 s.heap.objs.size (fun j => decide (j ∈ ns)) c → c ≤ ns.length → (∀ b o, s.heap.get? b = some o → h2.get? b = some o) → Q (.ref s.heap.objs.size) { s with heap := h2, toks := tk }) :
    wpAny (model P w) A (call (.type "set") [.ref l]) Q E s := by
  have sz : xs.size = ns.length := by
    have z := IntsAre.length hi
    rwa [Array.length_toList] at z
  obtain ⟨c0, tl0, m0⟩ := F.called_set.mro
  have m1 := F.called_set.made
  have m2 := F.called_set.sub
  refine wpAny_call (codeAny_of_tree (?_ : wpAny _ _ (callAny (.type "set") _) _ _ _))
  refine wpAny_pure ⟨Code.quiet_builtin _ (by decide +kernel), codeAny_builtin F.entry_type_call ?_⟩
  rw [Around.under_plain (weight_type_call_type "set" [.ref l] []) rfl]
  have m3 := F.called_set.notType
  have m4 := F.called_set.canCreate
  have m5 := F.typeCall_set_1 (.ref l)
  repeat (any_goals (first | assumption | wp_step))
  refine codeAny_mono (code_set_led1 (.ref l) (E := E) (Q₁ := fun obj t => obj = .ref s.heap.objs.size ∧ t = { s with heap := hset w s.heap }) ⟨rfl, rfl⟩) fun r t hr => ?_
  match r, hr with
  | .error e, hr => exact hr
  | .ok (.ret obj), hr =>
    obtain ⟨rfl, rfl⟩ := hr
    have ty : Shared.TypeIs { s with heap := hset w s.heap } (.ref s.heap.objs.size) "set" := ⟨_, hset_at s.heap, rfl⟩
    have m6 := F.called_set.init.lookup
    have m7 := F.called_set.init.bind (.ref s.heap.objs.size)
    repeat (any_goals (first | assumption | wp_step))
    refine codeAny_mono (codeAny_call_builtin (R := wants (fun r t => r = .none ∧ ∃ h2 tk c, t = { s with heap := h2, toks := tk } ∧ SetR w h2 s.heap.objs.size (fun j => decide (j ∈ ns)) c ∧ c ≤ ns.length ∧ (∀ b o, s.heap.get? b = some o → h2.get? b = some o)) E)
      F.called_set.init.plain F.entry_set_init (check_set_init_1 ty ?_)) fun r2 t2 hr2 => ?_
    · obtain ⟨⟨oc, od, odt, osl⟩, q1, q2, n, q3⟩ := hl
      dsimp only at q2 q3
      subst q2 q3
      have q4 : (hset w s.heap).get? l = some { cls := .type "list", dict := od, data := .seq xs n, slots := osl } := Heap.get?_push_of_some _ q1
      have m8 := F.sub_list_set
      have m9 := F.sub_list_frozenset
      have m10 : (Value.type "list" == Value.type "dict") = false := by decide
      have isl : (hset w s.heap).IsList l xs := ⟨_, q4, rfl, n, rfl⟩
      unfold Builtin.«set.__init__» noKeywords Builtin.Frozenset.updateFrom
      generalize hPI : pyIter = PI
      wp_walk
      subst hPI
      refine wpAny_pyIter_list isl (wpAny_bind (wpAny_runValue ?_))
      have below : l < s.heap.objs.size := Heap.lt_size q1
      have hh3 : A.in1.in1.in1.handled = none := by simp [hh]
      have up : (hset w s.heap).objs.size = s.heap.objs.size + 1 := Heap.size_push ..
      have ne : l ≠ (hset w s.heap).objs.size := by
        rw [up]
        exact Nat.ne_of_lt (Nat.lt_succ_of_lt below)
      have out : s.heap.objs.size ∉ [(hset w s.heap).objs.size, l] := by
        rw [up]
        simp only [List.mem_cons, List.not_mem_nil, or_false, not_or]
        exact ⟨Nat.ne_of_lt (Nat.lt_succ_self _), Nat.ne_of_gt below⟩
      have vals : ∀ (i : Nat) (v : Value), xs[i]? = some v → ∃ a t, ns[i]? = some a ∧ v = .int a t := fun i v hv => by
        have lt : i < ns.length := by
          have := (Array.getElem?_eq_some_iff.mp hv).1
          omega
        obtain ⟨t, rfl⟩ := PyProof.Rows.IntsAre.int_at hi i v (by rw [Array.getElem?_toList]; exact hv)
        exact ⟨ns[i], t, List.getElem?_eq_getElem lt, by rw [List.getD_eq_getElem?_getD, List.getElem?_eq_getElem lt]; rfl⟩
      refine set_update_ints ((Walks.list hh3 _ l ne xs).toS) s.heap.objs.size out ns sz room vals (xs.size - 0) 0 _ (by omega) (Nat.zero_le _) ⟨⟨_, Heap.get?_push_size _ rfl, rfl, rfl⟩, isl.push _⟩ ⟨0, Nat.le_refl 0, setR_new_at (Heap.get?_push_of_some _ (hset_at s.heap))⟩ ?_
      intro t3 c3 mv hc3 hS3
      obtain ⟨h2, g2, d2, tk2, os2⟩ := t3
      obtain rfl : g2 = s.gens := mv.gens
      obtain rfl : d2 = s.drawn := mv.drawn
      obtain rfl : os2 = s.os := mv.os
      refine wpAny_pure (?_ : wpAny _ _ (ret Value.none) _ _ _)
      rw [sz] at hc3
      refine wpAny_pure ⟨rfl, h2, tk2, c3, rfl, hS3, hc3, fun b o e => ?_⟩
      have b0 : b < s.heap.objs.size := Heap.lt_size e
      refine mv.heap b o ?_ (Heap.get?_push_of_some _ (Heap.get?_push_of_some _ e))
      rw [up]
      simp only [List.mem_cons, List.not_mem_nil, or_false, not_or]
      exact ⟨Nat.ne_of_lt b0, Nat.ne_of_lt (Nat.lt_succ_of_lt b0)⟩
    · match r2, hr2 with
      | .error e, hr2 => exact hr2
      | .ok (.ret _), hr2 =>
        obtain ⟨rfl, h2, tk, c, rfl, z1, z2, z3⟩ := hr2
        repeat (any_goals (first | assumption | wp_step))
        exact k _ _ _ z1 z2 z3
end
section
variable {X : Cx}
/-- set(xs) -/
def rSetI (K : PySem.W.Frag) (w : World) : List V → Hp → VK → Prop := fun xs H Q => ∃ (a : Addr) (ns : List Int), xs = [.ref a] ∧ SqL K H a (ns.map V.int) ∧ ns.length < 64 ∧ ∀ (p : Addr) (c : Nat), c ≤ ns.length → H p = none → Q (.ref p) (upd H p (SetO w p (fun j => decide (j ∈ ns)) c))
theorem cr_setI (hc : X.calm = true) : CallR X (.type "set") (rSetI X.K X.w) := by
  intro pins s σ H xs us Q I r ⟨a, ns, e, g, h64, q⟩
  subst e
  obtain ⟨its, rv, pl, _⟩ := I.list g
  rw [Vals.ref1 r]
  refine set_of_list ns (I.ok.hd hc) pl.isList rv.ints (Nat.lt_of_le_of_lt (show ns.length + 1 ≤ 64 by omega) (by decide)) fun h2 tk c z1 z2 z3 => ?_
  exact ⟨.ref _, _, I.laid (t' := tk) z3 (Nat.le_refl _) (setO_new z1), rfl, q _ c z2 (I.hok.fresh (Nat.le_refl _))⟩
end
end Os
end
section
set_option linter.all false
set_option maxRecDepth 100000
set_option maxHeartbeats 4000000
/-! OyC: sorted(.., key=f): f is any call of ours: what it makes is tracked. -/
namespace Os
open PySem PySem.Spec PyProof.Rows L2 PySem.W

section
variable {X : Cx} {pins : List (Addr × Obj)} {σ : L2.St} {H : Hp} {s : Shared} {a kS : Addr} {f : Value} {vs : List Value} {kz : List PyData} {W : Nat → List V → Hp → Prop} {P : PySem.Fin → Shared → Prop} {E : Value → Shared → Prop}

/-- one key asked for -/
def KeyTurn (X : Cx) (pins : List (Addr × Obj)) (σ : L2.St) (f : Value) (vs : List Value) (W : Nat → List V → Hp → Prop) : Prop :=
  ∀ (j : Nat) (v : Value) (s : Shared) (H : Hp) (ws : List V), vs[j]? = some v → Inv X pins σ H s → W j ws H →
    wpAny (model X.prog X.w) X.A.in1.in1 (call f [v]) (fun u s' => ∃ w H', Inv X pins σ H' s' ∧ Un (frs X.stack) [] H H' s.heap s'.heap ∧ RelV w u ∧ W (j + 1) (ws ++ [w]) H') (fun _ _ => False) s
theorem FpOk.nostk (I : Inv X pins σ H s) (fa : FpOk X pins H a) : a ∉ frs X.stack := fun z => by
  rcases List.mem_cons.mp (I.stkSub _ z) with e | e
  · exact fa.2.1 e
  · exact fa.2.2.1 e
theorem FpOk.to {H' : Hp} (fa : FpOk X pins H a) (h : H' a = none) : FpOk X pins H' a := ⟨h, fa.2⟩
theorem Inv.alter {t' : Nat} {h' : Heap} (I : Inv X pins σ H s) (fa : FpOk X pins H a) (k : ∀ b o, b ≠ a → s.heap.get? b = some o → h'.get? b = some o) : Inv X pins σ H { s with heap := h', toks := t' } :=
  I.turned k fa.1 fa.2.1 fa.2.2.2.1 fa.2.2.2.2.1 fa.2.2.2.2.2
theorem Inv.adopt {o : HO} (I : Inv X pins σ H s) (fa : FpOk X pins H a) (new : ObjOk X.prog X.w (upd H a o) s.heap a o) : Inv X pins σ (upd H a o) s := by
  have hn := fa.1
  refine I.step (h' := s.heap) (g' := s.gens) (d' := s.drawn) (t' := s.toks) (ch := [a]) (fun b hb => ?_) (fun b o _ _ hc e _ => e) (fun b o _ _ hc e _ => ⟨o.slots, e⟩) (fun b o hc e n => ?_) (fun b o hc e => ⟨o, e⟩) (fun b xs e => ?_) (fun b o u e => ?_) (fun b ps e => ⟨#[], ?_⟩) (fun m hm => hm)
    (HOk.laidN I.hok (fun _ _ e => e) hn new) I.bare
  · obtain rfl : b = a := by simpa using hb
    exact ⟨fa.2.2.2.1, fa.2.1, fa.2.2.2.2.1, fa.2.2.2.2.2⟩
  · rw [upd_ne (fun z => hc (by simp [z]))]
    exact n
  · rw [upd_ne (ne_of_none e hn)]
    exact e
  · rw [upd_ne (ne_of_none e hn)]
    exact e
  · rw [upd_ne (ne_of_none e hn)]
    simpa using e
theorem key_rest {e1 : Nat} (I : Inv X pins σ H s) (fa : FpOk X pins H a) (fk : FpOk X pins H kS) (nk : s.heap.get? kS = some (seqObj "list" #[] 0)) (na : s.heap.get? a = some (seqObj "list" #[] e1)) (hka : kS ≠ a)
    (hlen : kz.length = vs.length) (hZ : vs.length ≤ sizeLine) (hso : Sorts kz) (hu : ∀ d, d ∈ kz → X.A.in1.in1.units + d.depth < cLine) (turn : KeyTurn X pins σ f vs W) (w0 : W 0 [] H)
    (hread : ∀ ws us H s, Inv X pins σ H s → W vs.length ws H → Vals ws us → EachIs (fun u k => ∃ as, Reads s.heap u k as) us kz)
    (h : ∀ s' H' ws out c, Inv X pins σ H' s' → FpOk X pins H' a → s'.heap.get? a = some (seqObj "list" (List.toArray out) c) → W vs.length ws H' → KeyedM false kz vs out → P (.done (.ret .none)) s') :
    wpAny (model X.prog X.w) X.A.in1.in1 (ksk_rest a f false vs.toArray e1 (.ref kS)) P E s := by
  unfold ksk_rest
  refine wpAny_bind (wpAny_rule ?_)
  first
    | rw [List.forIn_toArray]
    | (rw [← Array.forIn_toList]; simp only [List.toList_toArray])
    | rw [← Array.forIn_toList]
  refine wpAny_bind (ksk_fold (fun i s' => ∃ H' ws kA e, Inv X pins σ H' s' ∧ H' a = none ∧ H' kS = none ∧ s'.heap.get? kS = some (seqObj "list" kA e) ∧ s'.heap.get? a = some (seqObj "list" #[] e1) ∧ Vals ws kA.toList ∧ ws.length = i ∧ W i ws H') vs 0 s
    ⟨H, [], #[], 0, I, fa.1, fk.1, nk, na, .nil, rfl, w0⟩ ?step ?done)
  case step =>
    rintro j x s' hx ⟨H', ws, kA, e, I', ha, hk, nk', na', rv, hl, hw⟩
    simp only [Nat.zero_add] at hl hw ⊢
    have hj : j < vs.length := (List.getElem?_eq_some_iff.mp hx).1
    have hz : kA.size ≤ vs.length := by
      have h1 := rv.length
      have h2 : kA.toList.length = kA.size := Array.length_toList
      omega
    refine wpAny_bind (wpAny_attempt (wpAny_mono (turn j x s' H' ws hx I' hw) (fun v s'' he => ?_) fun _ _ hF => hF.elim))
    obtain ⟨w, H'', I2, un, ru, hw2⟩ := he
    try dsimp only
    have fa' := FpOk.to fa ha
    have fk' := FpOk.to fk hk
    have nk2 : s''.heap.get? kS = some (seqObj "list" kA e) := un.keep _ _ nk' hk (FpOk.nostk I' fk') (by simp)
    have na2 : s''.heap.get? a = some (seqObj "list" #[] e1) := un.keep _ _ na' ha (FpOk.nostk I' fa') (by simp)
    have ha2 : H'' a = none := un.free _ _ na' ha (by simp)
    have hk2 : H'' kS = none := un.free _ _ nk' hk (by simp)
    have s1 := Heap.SameBut.update s''.heap kS (Obj.mapSeq (·.push v))
    obtain ⟨c2, hc2⟩ : ∃ c2, (s''.heap.update kS (Obj.mapSeq (·.push v))).get? kS = some (seqObj "list" (kA.push v) c2) := ⟨_, get?_update_seq nk2 (·.push v)⟩
    have ea : (kA.push v).toList = kA.toList ++ [v] := by simp
    refine wpAny_bind (listUpdate_at nk2 rfl ?_ (Nat.le_trans hz hZ) (Nat.le_trans (Nat.le_of_eq (Array.size_push ..)) (Nat.succ_le_succ (Nat.le_trans hz hZ))))
    refine wpAny_pure ⟨rfl, H'', ws ++ [w], kA.push v, c2, Inv.alter (t' := s''.toks) I2 (FpOk.to fk hk2) fun b o hb q => (s1.2 b hb).trans q, ha2, hk2, hc2, (s1.2 a hka.symm).trans na2, ?_, ?_, hw2⟩
    · rw [ea]
      exact rv.append (.cons ru .nil)
    · rw [List.length_append, hl]
      rfl
  case done =>
    rintro s' ⟨H', ws, kA, e, I', ha, hk, nk', na', rv, hl, hw⟩
    simp only [Nat.zero_add] at hl hw
    have hk' := hread ws kA.toList H' s' I' hw rv
    have hsz : kA.size = vs.length := by
      have h1 := rv.length
      have h2 : kA.toList.length = kA.size := Array.length_toList
      omega
    try dsimp only
    refine wpAny_bind (listItems_at nk' rfl ?_)
    obtain ⟨G, g1, g2⟩ := restrict s'.heap fun b => decide (b ≠ kS)
    have up : ∀ b o, b ≠ kS → s'.heap.get? b = some o → G.get? b = some o := fun b o hb q => by
      rw [g1 b (decide_eq_true hb)]
      exact q
    have gS : G.get? kS = none := g2 kS (decide_eq_false fun z => z rfl)
    have dn : KeepsBut a G s'.heap := fun b o hb q => by
      have hne : b ≠ kS := fun z => by
        rw [z, gS] at q
        cases q
      rw [g1 b (decide_eq_true hne)] at q
      exact q
    refine keyH_end (κ := dataKind s'.heap kz) (h₁ := G) dn gS nk' na' hka (SortsAt.any (s := s') hk' hso hu) hsz hZ fun h3 tk3 c k3 n3 => ?_
    have I3 : Inv X pins σ H' { s' with heap := h3, toks := tk3 } := by
      have nit : ∀ b u, H' b = some u → b ≠ a ∧ b ≠ kS := fun b u e => ⟨ne_of_none e ha, ne_of_none e hk⟩
      have kk : ∀ b o, b ≠ a → b ≠ kS → s'.heap.get? b = some o → h3.get? b = some o := fun b o h1 h2 q => k3 b o h1 (up b o h2 q)
      refine I'.step (g' := s'.gens) (d' := s'.drawn) (ch := [kS, a]) (fun b hb => ?_) (fun b o _ _ hc e _ => kk b o (fun z => hc (by simp [z])) (fun z => hc (by simp [z])) e) (fun b o _ _ hc e _ => ⟨o.slots, kk b o (fun z => hc (by simp [z])) (fun z => hc (by simp [z])) e⟩)
        (fun _ _ _ _ n => n) (fun b o hc e => ⟨o, kk b o (fun z => hc (by simp [z])) (fun z => hc (by simp [z])) e⟩) (fun _ _ e => e) (fun _ _ _ e => e) (fun b ps e => ⟨#[], by rw [e]; simp⟩) (fun m hm => ?_) (fun b u e => ?_) I'.bare
      · have hb' : b = kS ∨ b = a := by simpa using hb
        rcases hb' with z | z
        · subst z
          exact ⟨fk.2.2.2.1, fk.2.1, fk.2.2.2.2.1, fk.2.2.2.2.2⟩
        · subst z
          exact ⟨fa.2.2.2.1, fa.2.1, fa.2.2.2.2.1, fa.2.2.2.2.2⟩
      · obtain ⟨o, es, ep, ho, r⟩ := hm
        exact ⟨o, es, ep, kk _ o (Ne.symm fa.2.1) (Ne.symm fk.2.1) ho, r⟩
      · refine (I'.hok b u e).stay (fun c v hc q => ?_) (fun _ q => q) fun _ _ q => q
        rcases hc with z | z
        · subst z
          exact kk c v (nit c u e).1 (nit c u e).2 q
        · exact kk c v (nit c _ z).1 (nit c _ z).2 q
    exact h _ H' ws _ c I3 (FpOk.to fa ha) n3 hw ⟨s'.heap, kA.toList, hso.mix, rfl, hk'⟩
theorem sort_body {n : Nat} (I : Inv X pins σ H s) (fa : FpOk X pins H a) (ho : s.heap.get? a = some (seqObj "list" vs.toArray n)) (hlen : kz.length = vs.length) (hZ : vs.length ≤ sizeLine) (hso : Sorts kz) (hu : ∀ d, d ∈ kz → X.A.in1.in1.units + d.depth < cLine)
    (turn : KeyTurn X pins σ f vs W) (w0 : W 0 [] H) (hread : ∀ ws us H s, Inv X pins σ H s → W vs.length ws H → Vals ws us → EachIs (fun u k => ∃ as, Reads s.heap u k as) us kz)
    (h : ∀ s' H' ws out c, Inv X pins σ H' s' → FpOk X pins H' a → s'.heap.get? a = some (seqObj "list" (List.toArray out) c) → W vs.length ws H' → KeyedM false kz vs out → P (.done (.ret .none)) s') :
    wpAny (model X.prog X.w) X.A.in1.in1 (ksk_tree a f false) P E s := by
  have ha : a < s.heap.objs.size := Heap.lt_size ho
  obtain ⟨e1, ho1⟩ : ∃ e1, (s.heap.update a (Obj.mapSeq fun _ => (#[] : Array Value))).get? a = some (seqObj "list" #[] e1) := ⟨_, get?_update_seq ho fun _ => #[]⟩
  have hkS : ((s.heap.update a (Obj.mapSeq fun _ => (#[] : Array Value))).push (seqObj "tuple" vs.toArray 0)).objs.size = s.heap.objs.size + 1 := by rw [size_push', Heap.size_update]
  unfold ksk_tree
  refine wpAny_bind (listItems_at ho rfl ?_)
  refine wpAny_bind (listUpdate_at ho rfl ?_ (by rw [List.size_toArray]; exact hZ) (Nat.zero_le _))
  refine wpAny_bind (seqEpoch_at ho1 rfl ?_)
  refine wpAny_bind (wpAny_newTuple ?_ (by show vs.length ≤ _; exact hZ))
  refine wpAny_bind (wpAny_newList ?_ (Nat.zero_le _))
  refine wpAny_holding ?_
  have s1 := Heap.SameBut.update s.heap a (Obj.mapSeq fun _ => (#[] : Array Value))
  have I1 : Inv X pins σ H { s with heap := s.heap.update a (Obj.mapSeq fun _ => (#[] : Array Value)), toks := s.toks } := Inv.alter I fa fun b o hb q => (s1.2 b hb).trans q
  have I2 : Inv X pins σ H { s with heap := ((s.heap.update a (Obj.mapSeq fun _ => (#[] : Array Value))).push (seqObj "tuple" vs.toArray 0)).push (seqObj "list" #[] 0), toks := s.toks } := I1.kept fun b o q => Heap.get?_push_of_some _ (Heap.get?_push_of_some _ q)
  have nK : H ((s.heap.update a (Obj.mapSeq fun _ => (#[] : Array Value))).push (seqObj "tuple" vs.toArray 0)).objs.size = none := I.hok.fresh (by rw [hkS]; exact Nat.le_succ _)
  refine key_rest (kz := kz) (kS := ((s.heap.update a (Obj.mapSeq fun _ => (#[] : Array Value))).push (seqObj "tuple" vs.toArray 0)).objs.size) I2 fa (I.fpOk (by rw [hkS]; exact Nat.le_succ _) nK) (Heap.get?_push_size _ rfl) (Heap.get?_push_of_some _ (Heap.get?_push_of_some _ ho1)) (by rw [hkS]; exact Nat.ne_of_gt (Nat.lt_succ_of_lt ha))
    hlen hZ hso hu turn w0 hread h
/-- sorted(xs, key=f) of a list -/
theorem sorted_list {l g : Addr} {Q : Value → Shared → Prop} (hf : f = .ref g) (I : Inv X pins σ H s) (hl : s.heap.IsList l vs.toArray) (hlen : kz.length = vs.length) (hZ : vs.length ≤ sizeLine) (hso : Sorts kz) (hu : ∀ d, d ∈ kz → X.A.in1.in1.units + d.depth < cLine)
    (turn : KeyTurn X pins σ f vs W) (w0 : W 0 [] H) (hread : ∀ ws us H s, Inv X pins σ H s → W vs.length ws H → Vals ws us → EachIs (fun u k => ∃ as, Reads s.heap u k as) us kz)
    (h : ∀ s' a H' ws out c, H a = none → Inv X pins σ H' s' → FpOk X pins H' a → s'.heap.get? a = some (seqObj "list" (List.toArray out) c) → W vs.length ws H' → KeyedM false kz vs out → Q (.ref a) s') :
    wpAny (model X.prog X.w) X.A (call (.builtin "sorted") [.ref l] [(Str.ofString "key", f)]) Q E s := by
  subst hf
  refine sorted_of_sort hl hZ (ksk_s1 _ _) (fun _ => ksk_l1 _ _) fun E' => ?_
  rw [ksk_t1]
  have I1 : Inv X pins σ H { s with heap := copyHeap s.heap vs, toks := s.toks } := I.kept fun b o q => copyHeap_old q
  have hn : H (s.heap.objs.size + 1) = none := I.hok.fresh (Nat.le_succ _)
  exact sort_body (s := { s with heap := copyHeap s.heap vs, toks := s.toks }) I1 (I.fpOk (Nat.le_succ _) hn) (copyHeap_at s.heap vs) hlen hZ hso hu turn w0 hread fun s' H' ws out c i1 i2 i3 i4 i5 => ⟨rfl, h s' _ H' ws out c hn i1 i2 i3 i4 i5⟩
/-- sorted(t, key=f) of a tuple -/
theorem sorted_tuple {d g : Addr} {o : Obj} {n : Nat} {Q : Value → Shared → Prop} (hf : f = .ref g) (ho : s.heap.get? d = some o) (hc : o.cls = .type "tuple") (hd : o.data = .seq vs.toArray n)
    (I : Inv X pins σ H s) (hlen : kz.length = vs.length) (hZ : vs.length ≤ sizeLine) (hso : Sorts kz) (hu : ∀ d, d ∈ kz → X.A.in1.in1.units + d.depth < cLine)
    (turn : KeyTurn X pins σ f vs W) (w0 : W 0 [] H) (hread : ∀ ws us H s, Inv X pins σ H s → W vs.length ws H → Vals ws us → EachIs (fun u k => ∃ as, Reads s.heap u k as) us kz)
    (h : ∀ s' a H' ws out c, H a = none → Inv X pins σ H' s' → FpOk X pins H' a → s'.heap.get? a = some (seqObj "list" (List.toArray out) c) → W vs.length ws H' → KeyedM false kz vs out → Q (.ref a) s') :
    wpAny (model X.prog X.w) X.A (call (.builtin "sorted") [.ref d] [(Str.ofString "key", f)]) Q E s := by
  subst hf
  refine call_function_entry_kw kind_sorted plain_sorted entry_sorted (ksk_s1 _ _) ?_
  unfold Builtin.«sorted»
  refine wpAny_bind (m := checkCount "sorted" 1 1 _) (wpAny_pure ?_)
  refine wpAny_bind (wpAny_collect_seq (A := X.A.in1) d (.inr rfl) ho hc hd (fun h' hk => ?_) (by rw [List.size_toArray]; exact hZ))
  rw [show vs.toArray.toList = vs by simp]
  refine wpAny_bind (wpAny_newList ?_ hZ)
  have at_ : (h'.push (seqObj "list" vs.toArray 0)).get? h'.objs.size = some (seqObj "list" vs.toArray 0) := Heap.get?_push_size _ rfl
  have I0 : Inv X pins σ H { s with heap := h', toks := s.toks } := I.kept hk
  have I1 : Inv X pins σ H { s with heap := h'.push (seqObj "list" vs.toArray 0), toks := s.toks } := I.kept fun b o q => Heap.get?_push_of_some _ (hk b o q)
  have hna : H h'.objs.size = none := I0.hok.fresh (Nat.le_refl _)
  refine wpAny_bind (wpAny_holding (wpAny_call_entry_kw slot_list_sort ⟨_, at_, rfl⟩ entry_list_sort ?body (ksk_l1 _ _)))
  case body =>
    show wpAny (model X.prog X.w) X.A.in1.in1 (Builtin.«list.sort» ⟨[.ref h'.objs.size], [(Str.ofString "key", .ref g)]⟩) _ _ _
    rw [ksk_t1]
    exact sort_body (s := { s with heap := h'.push (seqObj "list" vs.toArray 0), toks := s.toks }) I1 (I0.fpOk (Nat.le_refl _) hna) at_ hlen hZ hso hu turn w0 hread fun s' H' ws out c i1 i2 i3 i4 i5 => ⟨_, rfl, wpAny_pure ⟨_, rfl, h s' _ H' ws out c hna i1 i2 i3 i4 i5⟩⟩
/-- sorted(d, key=f) of a dict -/
theorem sorted_dict {d g : Addr} {T : String} {n : Nat} {Pk : Nat → Value → Prop} {OK : Heap → Prop} {Q : Value → Shared → Prop} (hf : f = .ref g) (K : KdlSrc X.prog X.w T d d n Pk OK) (hh : X.A.handled = none) (hok : OK s.heap) (hn : n ≤ sizeLine)
    (hv : ∀ acc : Array Value, ItemsOf Pk acc n → acc.toList = vs) (I : Inv X pins σ H s) (hlen : kz.length = vs.length) (hZ : vs.length ≤ sizeLine) (hso : Sorts kz) (hu : ∀ d, d ∈ kz → X.A.in1.in1.units + d.depth < cLine)
    (turn : KeyTurn X pins σ f vs W) (w0 : W 0 [] H) (hread : ∀ ws us H s, Inv X pins σ H s → W vs.length ws H → Vals ws us → EachIs (fun u k => ∃ as, Reads s.heap u k as) us kz)
    (h : ∀ s' a H' ws out c, H a = none → Inv X pins σ H' s' → FpOk X pins H' a → s'.heap.get? a = some (seqObj "list" (List.toArray out) c) → W vs.length ws H' → KeyedM false kz vs out → Q (.ref a) s') :
    wpAny (model X.prog X.w) X.A (call (.builtin "sorted") [.ref d] [(Str.ofString "key", f)]) Q E s := by
  subst hf
  refine call_function_entry_kw kind_sorted plain_sorted entry_sorted (ksk_s1 _ _) ?_
  unfold Builtin.«sorted»
  refine wpAny_bind (m := checkCount "sorted" 1 1 _) (wpAny_pure ?_)
  refine wpAny_bind (kdu_collect (A := X.A.in1) K hh hok hn fun h' tk acc hk hacc => ?_)
  rw [hv acc hacc]
  refine wpAny_bind (wpAny_newList ?_ hZ)
  have at_ : (h'.push (seqObj "list" vs.toArray 0)).get? h'.objs.size = some (seqObj "list" vs.toArray 0) := Heap.get?_push_size _ rfl
  have I0 : Inv X pins σ H { s with heap := h', toks := tk } := I.kept hk
  have I1 : Inv X pins σ H { s with heap := h'.push (seqObj "list" vs.toArray 0), toks := tk } := I.kept fun b o q => Heap.get?_push_of_some _ (hk b o q)
  have hna : H h'.objs.size = none := I0.hok.fresh (Nat.le_refl _)
  refine wpAny_bind (wpAny_holding (wpAny_call_entry_kw slot_list_sort ⟨_, at_, rfl⟩ entry_list_sort ?body (ksk_l1 _ _)))
  case body =>
    show wpAny (model X.prog X.w) X.A.in1.in1 (Builtin.«list.sort» ⟨[.ref h'.objs.size], [(Str.ofString "key", .ref g)]⟩) _ _ _
    rw [ksk_t1]
    exact sort_body (s := { s with heap := h'.push (seqObj "list" vs.toArray 0), toks := tk }) I1 (I0.fpOk (Nat.le_refl _) hna) at_ hlen hZ hso hu turn w0 hread fun s' H' ws out c i1 i2 i3 i4 i5 => ⟨_, rfl, wpAny_pure ⟨_, rfl, h s' _ H' ws out c hna i1 i2 i3 i4 i5⟩⟩
end
end Os
end
section
set_option linter.all false
set_option maxRecDepth 100000
set_option maxHeartbeats 4000000
/-! OsF: defs by what they do; how the program's text and the small language's go together. -/
namespace Os
open PySem PySem.Spec PyProof.Rows L2

structure RoomG (k : Nat) (A : Around) : Prop where
  r : Room k A
  gd : A.guards = some []
/-- a def's promise where no repr runs -/
structure FnG (P : Program) (w : World) (K : PySem.W.Frag) (mg : Str → Option Value) (base : Heap) (k : Nat) (f : Addr) (fd : FuncData) (ps : List Str) (sp : Sp) : Prop where
  size : ∀ vs H Q E, sp vs H Q E → vs.length = ps.length
  go : ∀ (A : Around) (outer : List Env) (s : Shared) (H : Hp) (args : Args) (us : List Value) (vs : List V) (Q : VK) (E : XK), RoomG k A → Env0 P w K mg base A outer s H → BindsTo s fd args (ps.zip us) → Vals vs us → sp vs H Q E →
    codeAny (model P w) A (.call (.ref f) args) (CR CX0 outer P w H s Q E) s
theorem FnG.of {P : Program} {w : World} {K : PySem.W.Frag} {mg : Str → Option Value} {base : Heap} {k : Nat} {f : Addr} {fd : FuncData} {ps : List Str} {sp : Sp} (F : FnOk P w K mg base CX0 k f fd ps sp) : FnG P w K mg base k f fd ps sp :=
  ⟨F.len, fun A outer s H args us vs Q E hr => F.run A outer s H args us vs Q E hr.r⟩
theorem FnG.up {P : Program} {w : World} {K : PySem.W.Frag} {mg : Str → Option Value} {base : Heap} {j k : Nat} {f : Addr} {fd : FuncData} {ps : List Str} {sp : Sp} (F : FnG P w K mg base j f fd ps sp) (h : j ≤ k) : FnG P w K mg base k f fd ps sp :=
  ⟨F.size, fun A outer s H args us vs Q E hr => F.go A outer s H args us vs Q E ⟨hr.r.mono h, hr.gd⟩⟩
theorem FnG.imp {P : Program} {w : World} {K : PySem.W.Frag} {mg : Str → Option Value} {base : Heap} {k : Nat} {f : Addr} {fd : FuncData} {ps : List Str} {sp sp' : Sp} (F : FnG P w K mg base k f fd ps sp) (h : ∀ vs H Q E, sp' vs H Q E → sp vs H Q E) :
    FnG P w K mg base k f fd ps sp' := ⟨fun vs H Q E q => F.size vs H Q E (h _ _ _ _ q), fun A outer s H args us vs Q E hr he hb hv hs => F.go A outer s H args us vs Q E hr he hb hv (h _ _ _ _ hs)⟩

/-- arguments -/
inductive AR (w : World) {T : List (Addr × Str)} (g : GS T) (G : Addr → Prop) (H : Hp) : List V → List SL → Prop
  | nil : AR w g G H [] []
  | cons {v : V} {x : D} {vs : List V} {as : List SL} : Dat w G H v x → AR w g G H vs as → AR w g G H (v :: vs) (.d x :: as)
  | src {a c : Addr} {vs : List V} {as : List SL} : g.src = some (a, c) → AR w g G H vs as → AR w g G H (.ref a :: vs) (.src :: as)
theorem AR.length {w : World} {g : GS T} {G : Addr → Prop} {H : Hp} : ∀ {vs : List V} {as : List SL}, AR w g G H vs as → vs.length = as.length
  | _, _, .nil => rfl
  | _, _, .cons _ t => by simp [AR.length t]
  | _, _, .src _ t => by simp [AR.length t]
theorem AR.keep {w : World} {g : GS T} {G G' : Addr → Prop} {H H' : Hp} (f : ∀ v x, Dat w G H v x → Dat w G' H' v x) : ∀ {vs : List V} {as : List SL}, AR w g G H vs as → AR w g G' H' vs as
  | _, _, .nil => .nil
  | _, _, .cons r t => .cons (f _ _ r) (AR.keep f t)
  | _, _, .src e t => .src e (AR.keep f t)

/-- what a def of the list promises -/
def spF (w : World) (T : List (Addr × Str)) (F : FE) : Sp := fun vs H Q _ => ∃ (T' : List (Addr × Str)) (g : GS T'), ∃ G as s d s', (F.pure = true ∨ T' = T) ∧ (∀ b, G b → ¬ Own2 g b) ∧ SrcR g H s ∧ AR w g G H vs as ∧ as.length = F.ar ∧ F.sem as s = some (d, s') ∧
  ∀ v H', Ps w g G H H' v d s' → (F.fresh = true → NewL w G H H' v d) → Q v H'

/-- a text's constant is what it is, anywhere -/
def leafV : V → D → Prop
  | .non, .none => True
  | .bl b, .bool c => b = c
  | .int i, .int j => i = j
  | .str x, .str y => x = y
  | _, _ => False
theorem leafV.dat {w : World} {G : Addr → Prop} {H : Hp} : ∀ {v : V} {d : D}, leafV v d → Dat w G H v d
  | .non, .none, _ => .none
  | .bl _, .bool _, h => by cases h; exact .bool _
  | .int _, .int _, h => by cases h; exact .int _
  | .str _, .str _, h => by cases h; exact .str _

def leafD : D → Bool
  | .tuple _ => false
  | _ => true
inductive Leaves : List V → List D → Prop
  | nil : Leaves [] []
  | cons {v : V} {d : D} {vs : List V} {ds : List D} : leafV v d → Leaves vs ds → Leaves (v :: vs) (d :: ds)
/-- a tuple of the module -/
def glT (K : PySem.W.Frag) (v : V) (d : D) : Prop := ∃ a xs vs, v = .ref a ∧ d = .tuple xs ∧ Leaves vs xs ∧ ∀ H, SqT K H a vs
def glV (K : PySem.W.Frag) (v : V) (d : D) : Prop := leafV v d ∨ glT K v d
/-- what the making of a lambda asks -/
def LamOk (X : Cx) (T : List (Addr × Str)) : Prop := ∃ c P, X.env.code = .ref c ∧ LamX.TabB X.base X.mg c P ∧ (P, X.env.qual ++ "<lambda>") ∈ T ∧ ∀ p ∈ T, p.1 = P → p.2 = X.env.qual ++ "<lambda>"
/-- what a context knows of the module -/
structure XC (X : Cx) (Φ : Fs) (gk : List (Str × D)) (k : Nat) : Prop where
  calm : X.calm = true
  rm : RoomG (k + 1) X.A
  nd : X.N.Nodup
  bl : ∀ x ∈ bNames, X.mg x = none
  fns : ∀ F ∈ Φ.l, ∃ f fd ps, X.mg F.name = some (.ref f) ∧ PySem.W.keepIn X.K (.ref f) = true ∧ Binds X.K fd ps [] ∧ ps.length = F.ar ∧ FnG X.prog X.w X.K X.mg X.base k f fd ps (spF X.w Φ.T F)
  gks : ∀ p ∈ gk, ∃ u v, X.mg p.1 = some u ∧ RelV v u ∧ glV X.K v p.2
  lam : Φ.b = true → RoomG (k + 2) X.A ∧ LamOk X Φ.T
theorem RoomG.mono {j k : Nat} {A : Around} (r : RoomG k A) (h : j ≤ k) : RoomG j A := ⟨r.r.mono h, r.gd⟩
theorem XC.rk {X : Cx} {Φ : Fs} {gk : List (Str × D)} {k : Nat} (C : XC X Φ gk k) : RoomG k X.A := C.rm.mono (Nat.le_succ _)
theorem XC.xr {X : Cx} {Φ : Fs} {gk : List (Str × D)} {k : Nat} (C : XC X Φ gk k) : XR X := ⟨C.calm, by have := C.rk.r.un; omega, C.rk.gd⟩
theorem XC.blk {X : Cx} {Φ : Fs} {gk : List (Str × D)} {k : Nat} (C : XC X Φ gk k) {s : Shared} {H : Hp} {scope : Scope} {cenv : Env} {fp : List Addr} (h1 : cenv.code = X.env.code := by rfl) (h2 : cenv.qual = X.env.qual := by rfl) : XC (X.blk s H scope cenv fp) Φ gk k :=
  ⟨C.calm, C.rm, C.nd, C.bl, C.fns, C.gks, fun hb => by
    obtain ⟨r, c, P, e1, e2, e3, e4⟩ := C.lam hb
    have q : (X.blk s H scope cenv fp).env.qual = X.env.qual := h2
    exact ⟨r, c, P, h1.trans e1, e2, by rw [q]; exact e3, by rw [q]; exact e4⟩⟩

def coB : BoolOp → ME → ME → ME
  | .And => ME.and_
  | .Or => ME.or_

def isTup : Expr → Bool
  | .Tuple _ _ _ => true
  | _ => false

/-- targets -/
inductive TrT (N : List Str) (fn : Str → Bool) (sc : Scope) : Expr → MT → Prop
  | nm {i : Nat} {x : Str} {pos : Pos} : N[i]? = some x → Loc sc x → (fn x = true ∨ sc.names.lookup x = some .local) → TrT N fn sc (.Name x pos) (.nm i)
  | two {a b : Expr} {p q : MT} {k : Nat} {pos : Pos} : TrT N fn sc a p → TrT N fn sc b q → TrT N fn sc (.Tuple [a, b] k pos) (.two p q)
  | three {a b c : Expr} {p q r : MT} {k : Nat} {pos : Pos} : TrT N fn sc a p → TrT N fn sc b q → TrT N fn sc c r → TrT N fn sc (.Tuple [a, b, c] k pos) (.three p q r)
  | four {a b c d : Expr} {p q r t : MT} {k : Nat} {pos : Pos} : TrT N fn sc a p → TrT N fn sc b q → TrT N fn sc c r → TrT N fn sc d t → TrT N fn sc (.Tuple [a, b, c, d] k pos) (.four p q r t)
  | sixL {a b c d e f : Expr} {p q r t u v : MT} {k : Nat} {pos : Pos} : TrT N fn sc a p → TrT N fn sc b q → TrT N fn sc c r → TrT N fn sc d t → TrT N fn sc e u → TrT N fn sc f v → TrT N fn sc (.Tuple [a, b, c, d, e, f] k pos) (.sixL p q r t u v)

def isStar : Expr → Bool
  | .Starred .. => true
  | _ => false
/-- the captured names of a lambda -/
def lamFB (sc scope : Scope) (fr : List Str) : Bool := (scope.names.all fun y => !decide (y.2 = .free) || decide (sc.names.lookup y.1 = some .cell) || decide (sc.names.lookup y.1 = some .free)) && fr.all fun y => decide ((y, NameKind.free) ∈ scope.names)
mutual
inductive TrE : List FE → List (Str × D) → Bool → List Str → Scope → Expr → ME → Prop
  | nm {N : List Str} {sc : Scope} {i : Nat} {x : Str} {pos : Pos} : N[i]? = some x → Vis sc x → (x == ("__debug__" : Str)) = false → (x == ("__classdict__" : Str)) = false → TrE Φ gk lb N sc (.Name x pos) (.nm i)
  | gl {N : List Str} {sc : Scope} {x : Str} {d : D} {pos : Pos} : sc.names.lookup x = some .globalImplicit → (x, d) ∈ gk → (x == ("__debug__" : Str)) = false → leafD d = true → TrE Φ gk lb N sc (.Name x pos) (.k d)
  | inG {N : List Str} {sc : Scope} {x : Str} {a : Expr} {p : ME} {xs : List D} {pos pos2 : Pos} : TrE Φ gk lb N sc a p → sc.names.lookup x = some .globalImplicit → (x, .tuple xs) ∈ gk → (x == ("__debug__" : Str)) = false → TrE Φ gk lb N sc (.Compare a [.In] [.Name x pos2] pos) (.inG p xs)
  | ci {N : List Str} {sc : Scope} {i : Int} {j : Nat} {pos : Pos} : TrE Φ gk lb N sc (.Constant (.int i) j pos) (.k (.int i))
  | cb {N : List Str} {sc : Scope} {b : Bool} {j : Nat} {pos : Pos} : TrE Φ gk lb N sc (.Constant (.bool b) j pos) (.k (.bool b))
  | cn {N : List Str} {sc : Scope} {j : Nat} {pos : Pos} : TrE Φ gk lb N sc (.Constant .none j pos) (.k .none)
  | cs {N : List Str} {sc : Scope} {x : Str} {j : Nat} {pos : Pos} : TrE Φ gk lb N sc (.Constant (.str x) j pos) (.k (.str x))
  | tup {N : List Str} {sc : Scope} {es : List Expr} {ms : MEs} {x1 : Nat} {pos : Pos} : TrEs Φ gk lb N sc es ms → TrE Φ gk lb N sc (.Tuple es x1 pos) (.tup ms)
  | lst {N : List Str} {sc : Scope} {es : List Expr} {ms : MEs} {pos : Pos} : TrEs Φ gk lb N sc es ms → TrE Φ gk lb N sc (.List es pos) (.lst ms)
  | op {N : List Str} {sc : Scope} (o : O2) {a b : Expr} {p q : ME} {pos : Pos} : TrE Φ gk lb N sc a p → TrE Φ gk lb N sc b q → TrE Φ gk lb N sc (.BinOp a (o2Op o) b pos) (.op o p q)
  | catL {N : List Str} {sc : Scope} {a b : Expr} {p q : ME} {pos : Pos} : TrE Φ gk lb N sc a p → TrE Φ gk lb N sc b q → TrE Φ gk lb N sc (.BinOp a .Add b pos) (.catL p q)
  | sll {N : List Str} {sc : Scope} {a : Expr} {lo hi : Option Expr} {p : ME} {l h : MO} {p2 pos : Pos} : TrE Φ gk lb N sc a p → TrO Φ gk lb N sc lo l → TrO Φ gk lb N sc hi h → TrE Φ gk lb N sc (.Subscript a (.Slice lo hi none p2) pos) (.sll p l h)
  | up {N : List Str} {sc : Scope} {a : Expr} {p : ME} {apos pos : Pos} : TrE Φ gk lb N sc a p → (∀ env, attributeBase a "upper" env (eval a env) = eval a env) → (apos.endLine == pos.line) = true → TrE Φ gk lb N sc (.Call (.Attribute a "upper" apos) [] [] pos) (.up p)
  | neg {N : List Str} {sc : Scope} {a : Expr} {p : ME} {pos : Pos} : TrE Φ gk lb N sc a p → TrE Φ gk lb N sc (.UnaryOp .USub a pos) (.neg p)
  | cmp {N : List Str} {sc : Scope} (o : CO) {a b : Expr} {p q : ME} {pos : Pos} : TrE Φ gk lb N sc a p → TrE Φ gk lb N sc b q → behindInMarks (coOp o) b = false → TrE Φ gk lb N sc (.Compare a [coOp o] [b] pos) (.cmp o p q)
  | isN {N : List Str} {sc : Scope} {a : Expr} {p : ME} {j : Nat} {pos pos' : Pos} : TrE Φ gk lb N sc a p → TrE Φ gk lb N sc (.Compare a [.Is] [.Constant .none j pos'] pos) (.isN p)
  | notN {N : List Str} {sc : Scope} {a : Expr} {p : ME} {j : Nat} {pos pos' : Pos} : TrE Φ gk lb N sc a p → TrE Φ gk lb N sc (.Compare a [.IsNot] [.Constant .none j pos'] pos) (.notN p)
  | chn {N : List Str} {sc : Scope} (o q : CO) {a b c : Expr} {pa pb pc : ME} {pos : Pos} : TrE Φ gk lb N sc a pa → TrE Φ gk lb N sc b pb → TrE Φ gk lb N sc c pc → lastMarks [coOp o, coOp q] [b, c] = false → TrE Φ gk lb N sc (.Compare a [coOp o, coOp q] [b, c] pos) (.chn o q pa pb pc)
  | bo {N : List Str} {sc : Scope} {o : BoolOp} {a b : Expr} {es : List Expr} {m : ME} {pos : Pos} : TrB Φ gk lb N sc o (a :: b :: es) m → TrE Φ gk lb N sc (.BoolOp o (a :: b :: es) pos) m
  | not_ {N : List Str} {sc : Scope} {a : Expr} {p : ME} {pos : Pos} : TrE Φ gk lb N sc a p → TrE Φ gk lb N sc (.UnaryOp .Not a pos) (.not_ p)
  | ite {N : List Str} {sc : Scope} {c a b : Expr} {pc pa pb : ME} {pos : Pos} : TrE Φ gk lb N sc c pc → TrE Φ gk lb N sc a pa → TrE Φ gk lb N sc b pb → TrE Φ gk lb N sc (.IfExp c a b pos) (.ite pc pa pb)
  | idx {N : List Str} {sc : Scope} {a i : Expr} {p q : ME} {pos : Pos} : TrE Φ gk lb N sc a p → TrE Φ gk lb N sc i q → PlainIx i → TrE Φ gk lb N sc (.Subscript a i pos) (.idx p q)
  | slc {N : List Str} {sc : Scope} {a : Expr} {lo hi : Option Expr} {p : ME} {l h : MO} {p2 pos : Pos} : TrE Φ gk lb N sc a p → TrO Φ gk lb N sc lo l → TrO Φ gk lb N sc hi h → TrE Φ gk lb N sc (.Subscript a (.Slice lo hi none p2) pos) (.slc p l h)
  | revl {N : List Str} {sc : Scope} {a : Expr} {p : ME} {k : Nat} {p1 p2 p3 pos : Pos} : TrE Φ gk lb N sc a p → TrE Φ gk lb N sc (.Subscript a (.Slice none none (some (.UnaryOp .USub (.Constant (.int 1) k p1) p2)) p3) pos) (.revl p)
  | call {N : List Str} {sc : Scope} {x : Str} {es : List Expr} {ms : MAs} (f : Nat) {F : FE} {p pos : Pos} : sc.names.lookup x = some .globalImplicit → Φ[f]? = some F → F.name = x → (x == ("__debug__" : Str)) = false → TrA Φ gk lb N sc es ms → TrE Φ gk lb N sc (.Call (.Name x p) es [] pos) (.call f ms)
  | b1 {N : List Str} {sc : Scope} (f : B1) {a : Expr} {q : ME} {p pos : Pos} : sc.names.lookup (b1N f) = some .globalImplicit → TrE Φ gk lb N sc a q → TrE Φ gk lb N sc (.Call (.Name (b1N f) p) [a] [] pos) (.b1 f q)
  | b2 {N : List Str} {sc : Scope} (f : B2) {a b : Expr} {q r : ME} {p pos : Pos} : sc.names.lookup (b2N f) = some .globalImplicit → TrE Φ gk lb N sc a q → TrE Φ gk lb N sc b r → TrE Φ gk lb N sc (.Call (.Name (b2N f) p) [a, b] [] pos) (.b2 f q r)
  | isi {N : List Str} {sc : Scope} (t : TY) {a : Expr} {q : ME} {p p2 pos : Pos} : sc.names.lookup ("isinstance" : Str) = some .globalImplicit → sc.names.lookup (tyN t) = some .globalImplicit → TrE Φ gk lb N sc a q → TrE Φ gk lb N sc (.Call (.Name "isinstance" p) [a, .Name (tyN t) p2] [] pos) (.isi q t)
  | m1 {N : List Str} {sc : Scope} (f : M1) {o a : Expr} {q r : ME} {apos cpos : Pos} : TrE Φ gk lb N sc o q → TrE Φ gk lb N sc a r → (∀ env, attributeBase o (m1N f) env (eval o env) = eval o env) → (apos.endLine == cpos.line) = true → TrE Φ gk lb N sc (.Call (.Attribute o (m1N f) apos) [a] [] cpos) (.m1 f q r)
  | m2 {N : List Str} {sc : Scope} (f : M2) {o a b : Expr} {q r t : ME} {apos cpos : Pos} : TrE Φ gk lb N sc o q → TrE Φ gk lb N sc a r → TrE Φ gk lb N sc b t → (∀ env, attributeBase o (m2N f) env (eval o env) = eval o env) → (apos.endLine == cpos.line) = true → TrE Φ gk lb N sc (.Call (.Attribute o (m2N f) apos) [a, b] [] cpos) (.m2 f q r t)
  | bad {N : List Str} {sc : Scope} {e : Expr} : isStar e = false → TrE Φ gk lb N sc e .bad
  | isB {N : List Str} {sc : Scope} {a : Expr} {b : Bool} {p : ME} {j : Nat} {pos pos' : Pos} : TrE Φ gk lb N sc a p → TrE Φ gk lb N sc (.Compare a [.Is] [.Constant (.bool b) j pos'] pos) (.isB b p)
  | notB {N : List Str} {sc : Scope} {a : Expr} {b : Bool} {p : ME} {j : Nat} {pos pos' : Pos} : TrE Φ gk lb N sc a p → TrE Φ gk lb N sc (.Compare a [.IsNot] [.Constant (.bool b) j pos'] pos) (.not_ (.isB b p))
  | sset {N : List Str} {sc : Scope} {a : Expr} {q : ME} {p p2 pos pos2 : Pos} : sc.names.lookup ("sorted" : Str) = some .globalImplicit → sc.names.lookup ("set" : Str) = some .globalImplicit → TrE Φ gk lb N sc a q → TrE Φ gk lb N sc (.Call (.Name "sorted" p) [.Call (.Name "set" p2) [a] [] pos2] [] pos) (.sset q)
  | dict0 {N : List Str} {sc : Scope} {pos : Pos} : TrE Φ gk lb N sc (.Dict [] [] pos) .dict0
  | sortK {N : List Str} {sc : Scope} {a : Expr} {x : Str} {m : ME} (f : Nat) {F : FE} {p p2 kp pos : Pos} : sc.names.lookup ("sorted" : Str) = some .globalImplicit → sc.names.lookup x = some .globalImplicit → (pureL Φ)[f]? = some F → F.name = x → (x == ("__debug__" : Str)) = false → TrE Φ gk lb N sc a m →
      TrE Φ gk lb N sc (.Call (.Name "sorted" p) [a] [⟨some "key", .Name x p2, kp⟩] pos) (.sortK f m)
  | sortL {N : List Str} {sc : Scope} {a : Expr} {x : Str} {params : Arguments} {body : Expr} {scope : Scope} {fr : List Str} {js : List Nat} {m n : ME} {p lp kp pos : Pos} : sc.names.lookup ("sorted" : Str) = some .globalImplicit → TrE Φ gk true N sc a m → NdefX.nscB (x :: fr) [x] fr scope = true → lamFB sc scope fr = true → js.map (fun j => N[j]?) = fr.map some →
      (∀ env, defaultsOf params env = ([], [])) → (∀ (q : Str) (cl : List (Str × Addr)) (pm cv ctv u : Value), bindArgs (PySem.W.kla_fn "<lambda>" q params body scope cl pm cv ctv) ⟨[u], []⟩ = pure [(x, u)]) → TrE (pureL Φ) gk false (x :: fr) scope body n →
      TrE Φ gk true N sc (.Call (.Name "sorted" p) [a] [⟨some "key", .Lambda params body scope lp, kp⟩] pos) (.sortL m js n)
  | comp {N : List Str} {sc : Scope} {elt tg iter : Expr} {ifs : List Expr} {scope : Scope} {own : List (Str × Nat)} {pos : Pos} {me : ME} {t : MT} {it : MI} {fs : MEs} :
      blkC N sc scope own = true → TrT N (fun x => scope.names.lookup x == some .cell) (relS scope sc) tg t → (t.slots.all fun i => (own.map (·.2)).contains i) = true → TrI Φ gk lb N sc (isTup tg) iter it → TrF Φ gk lb N (relS scope sc) ifs fs → TrE Φ gk lb N (relS scope sc) elt me →
      (∀ env x, foldedSetIterable iter env x = pure x) → TrE Φ gk lb N sc (.ListComp elt [⟨tg, iter, ifs, 0⟩] scope pos) (.comp me t it fs (own.map (·.2)))
inductive TrB : List FE → List (Str × D) → Bool → List Str → Scope → BoolOp → List Expr → ME → Prop
  | one {N : List Str} {sc : Scope} {o : BoolOp} {a : Expr} {m : ME} : TrE Φ gk lb N sc a m → TrB Φ gk lb N sc o [a] m
  | cons {N : List Str} {sc : Scope} {o : BoolOp} {a b : Expr} {r : List Expr} {m n : ME} : TrE Φ gk lb N sc a m → TrB Φ gk lb N sc o (b :: r) n → TrB Φ gk lb N sc o (a :: b :: r) (coB o m n)
inductive TrEs : List FE → List (Str × D) → Bool → List Str → Scope → List Expr → MEs → Prop
  | nil {N : List Str} {sc : Scope} : TrEs Φ gk lb N sc [] .nil
  | cons {N : List Str} {sc : Scope} {e : Expr} {es : List Expr} {m : ME} {ms : MEs} : TrE Φ gk lb N sc e m → TrEs Φ gk lb N sc es ms → TrEs Φ gk lb N sc (e :: es) (.cons m ms)
  | star {N : List Str} {sc : Scope} {e : Expr} {es : List Expr} {p : Pos} {m : ME} {ms : MEs} : TrE Φ gk lb N sc e m → TrEs Φ gk lb N sc es ms → TrEs Φ gk lb N sc (.Starred e p :: es) (.star m ms)
inductive TrA : List FE → List (Str × D) → Bool → List Str → Scope → List Expr → MAs → Prop
  | nil {N : List Str} {sc : Scope} : TrA Φ gk lb N sc [] .nil
  | cons {N : List Str} {sc : Scope} {e : Expr} {es : List Expr} {m : ME} {ms : MAs} : TrE Φ gk lb N sc e m → TrA Φ gk lb N sc es ms → TrA Φ gk lb N sc (e :: es) (.cons m ms)
  | src {N : List Str} {sc : Scope} {i : Nat} {x : Str} {pos : Pos} {es : List Expr} {ms : MAs} : N[i]? = some x → Vis sc x → (x == ("__debug__" : Str)) = false → (x == ("__classdict__" : Str)) = false → TrA Φ gk lb N sc es ms → TrA Φ gk lb N sc (.Name x pos :: es) (.src i ms)
inductive TrF : List FE → List (Str × D) → Bool → List Str → Scope → List Expr → MEs → Prop
  | nil {N : List Str} {sc : Scope} : TrF Φ gk lb N sc [] .nil
  | one {N : List Str} {sc : Scope} {e : Expr} {m : ME} : TrE Φ gk lb N sc e m → TrF Φ gk lb N sc [e] (.cons m .nil)
inductive TrO : List FE → List (Str × D) → Bool → List Str → Scope → Option Expr → MO → Prop
  | no {N : List Str} {sc : Scope} : TrO Φ gk lb N sc none .no
  | yes {N : List Str} {sc : Scope} {e : Expr} {m : ME} : TrE Φ gk lb N sc e m → TrO Φ gk lb N sc (some e) (.yes m)
inductive TrI : List FE → List (Str × D) → Bool → List Str → Scope → Bool → Expr → MI → Prop
  | seq {N : List Str} {sc : Scope} {b : Bool} {e : Expr} {m : ME} : TrE Φ gk lb N sc e m → TrI Φ gk lb N sc b e (.seq m)
  | range1 {N : List Str} {sc : Scope} {b : Bool} {e : Expr} {m : ME} {p pos : Pos} : sc.names.lookup ("range" : Str) = some .globalImplicit → TrE Φ gk lb N sc e m → TrI Φ gk lb N sc b (.Call (.Name "range" p) [e] [] pos) (.range1 m)
  | range2 {N : List Str} {sc : Scope} {b : Bool} {e f : Expr} {m n : ME} {p pos : Pos} : sc.names.lookup ("range" : Str) = some .globalImplicit → TrE Φ gk lb N sc e m → TrE Φ gk lb N sc f n → TrI Φ gk lb N sc b (.Call (.Name "range" p) [e, f] [] pos) (.range2 m n)
  | enum {N : List Str} {sc : Scope} {e : Expr} {m : ME} {p pos : Pos} : sc.names.lookup ("enumerate" : Str) = some .globalImplicit → TrE Φ gk lb N sc e m → TrI Φ gk lb N sc true (.Call (.Name "enumerate" p) [e] [] pos) (.enum m)
  | zip {N : List Str} {sc : Scope} {e f : Expr} {m n : ME} {p pos : Pos} : sc.names.lookup ("zip" : Str) = some .globalImplicit → TrE Φ gk lb N sc e m → TrE Φ gk lb N sc f n → TrI Φ gk lb N sc true (.Call (.Name "zip" p) [e, f] [] pos) (.zip m n)
  | items {N : List Str} {sc : Scope} {e : Expr} {m : ME} {ap pos : Pos} : TrE Φ gk lb N sc e m → (∀ env, attributeBase e "items" env (eval e env) = eval e env) → (ap.endLine == pos.line) = true → TrI Φ gk lb N sc true (.Call (.Attribute e "items" ap) [] [] pos) (.items m)
  | values {N : List Str} {sc : Scope} {b : Bool} {e : Expr} {m : ME} {ap pos : Pos} : TrE Φ gk lb N sc e m → (∀ env, attributeBase e "values" env (eval e env) = eval e env) → (ap.endLine == pos.line) = true → TrI Φ gk lb N sc b (.Call (.Attribute e "values" ap) [] [] pos) (.values m)
end
/-- no star -/
theorem TrE.ns {Φ : List FE} {gk : List (Str × D)} {lb : Bool} {N : List Str} {sc : Scope} {e : Expr} {m : ME} (h : TrE Φ gk lb N sc e m) : ∀ (es : List Expr) (env : Env), starEach (e :: es) env = (false, eval e env) :: starEach es env := by
  cases h <;> first | (intro _ _; rfl) | (rename_i h; cases e <;> first | (intro _ _; rfl) | cases h)
end Os
end
section
set_option linter.all false
set_option maxRecDepth 100000
set_option maxHeartbeats 4000000
/-! OsG: each construct by the evaluator: the single rules. -/
namespace Os
open PySem PySem.Spec PyProof.Rows L2

def tEs (w : World) (Φ : Fs) (ms : MEs) : TA := fun σ H Q => ∃ (g : GS Φ.T), ∃ G ρ s ds s', ES w g G σ H ρ s ∧ evs Φ.l ms ρ s = some (ds, s') ∧ ∀ vs H', Keep g H H' → SrcR g H' s' → Dats w (Up G H) H' vs ds → Q vs H'
def tAs (w : World) (Φ : Fs) (ms : MAs) : TA := fun σ H Q => ∃ (g : GS Φ.T), ∃ G ρ s as s', ES w g G σ H ρ s ∧ eva Φ.l ms ρ s = some (as, s') ∧ ∀ vs H', Keep g H H' → SrcR g H' s' → AR w g (Up G H) H' vs as → Q vs H'
def tMO (w : World) (Φ : Fs) (m : MO) : TO := fun σ H Q => ∃ (g : GS Φ.T), ∃ G ρ s i s', ES w g G σ H ρ s ∧ evo Φ.l m ρ s = some (i, s') ∧ ∀ H', Keep g H H' → SrcR g H' s' → Q i H'
/-- a filter of a comprehension -/
def tFs (w : World) (Φ : Fs) (m : MEs) : TT := fun σ H Q => ∃ (g : GS Φ.T), ∃ G ρ s b s', ES w g G σ H ρ s ∧ evt Φ.l m ρ s = some (b, s') ∧ ∀ H', Keep g H H' → SrcR g H' s' → Q b H'

section
variable {X : Cx} {Φ : Fs} {gk : List (Str × D)} {k : Nat}
theorem pe_weak {e : Expr} {t t' : TE} (h : PE X e t) (f : ∀ σ H Q, t' σ H Q → t σ H Q) : PE X e t' := ⟨fun pins s σ H Q I q => h.run pins s σ H Q I (f σ H Q q)⟩
theorem pt_weak {e : Expr} {t t' : TT} (h : PT X e t) (f : ∀ σ H Q, t' σ H Q → t σ H Q) : PT X e t' := ⟨fun pins s σ H Q I q => h.run pins s σ H Q I (f σ H Q q)⟩
theorem pw_weak {e : Expr} {t t' : TT} (h : PW X e t) (f : ∀ σ H Q, t' σ H Q → t σ H Q) : PW X e t' := ⟨fun wh pins s σ H Q I q => h.run wh pins s σ H Q I (f σ H Q q)⟩
theorem pa_weak {es : List Expr} {t t' : TA} (h : PA X es t) (f : ∀ σ H Q, t' σ H Q → t σ H Q) : PA X es t' := ⟨fun pos pins s σ H Q I q => h.run pos pins s σ H Q I (f σ H Q q)⟩
theorem po_weak {e : Option Expr} {t t' : TO} (h : PO X e t) (f : ∀ σ H Q, t' σ H Q → t σ H Q) : PO X e t' := ⟨fun pins s σ H Q I q => h.run pins s σ H Q I (f σ H Q q)⟩

structure Snd (X : Cx) (Φ : Fs) (e : Expr) (m : ME) : Prop where
  pe : PE X e (tE X.w Φ m)
  pt : PT X e (tT X.w Φ m)

theorem mkS {e : Expr} {m : ME} (h : PE X e (tE X.w Φ m)) (he : ∀ whole, isTrue e X.env whole = (do let v ← whole; standAt e.pos; holding [v] (truthy v))) : Snd X Φ e m :=
  ⟨h, pt_weak (pt_truth h he) fun σ H Q ⟨g, G, ρ, s, d, s', b, E, ee, hb, q⟩ => ⟨g, G, ρ, s, d, s', E, ee, fun v H' p _ => ⟨b, tru_of p.dat hb, q H' p.keep p.src⟩⟩⟩

section
variable {g : GS T} {G : Addr → Prop} {σ : L2.St} {H H1 H2 : Hp} {ρ : LS} {s s1 s2 : S1}
theorem Ps.fin {v : V} {d : D} {w : World} (k1 : Keep g H H1) (r1 : SrcR g H1 s1) (sm : Same H1 H2) (dd : Dat w (Up (Up G H) H1) H2 v d) : Ps w g G H H2 v d s1 :=
  ⟨k1.trans (Keep.of sm), r1.same sm, dd.mono fun b h => Up.up k1 r1 b h⟩
theorem Ps.flat {v : V} {d : D} {w : World} (k1 : Keep g H H1) (r1 : SrcR g H1 s1) (dd : Dat w (Up G H) H1 v d) : Ps w g G H H1 v d s1 := ⟨k1, r1, dd⟩
theorem NewL.fin {v : V} {d : D} {w : World} (k1 : Keep g H H1) (r1 : SrcR g H1 s1) (n : NewL w (Up G H) H1 H2 v d) : NewL w G H H2 v d := by
  obtain ⟨p, e1, e2, n⟩ := n
  refine ⟨p, e1, k1.alive r1 e2, ?_⟩
  rcases n with ⟨vs, ds, e3, e4, e5⟩ | ⟨es, kvs, e3, e4, e5⟩
  · exact .inl ⟨vs, ds, e3, e4, e5.mono fun b h => ⟨Up.up k1 r1 b h.1, h.2⟩⟩
  · exact .inr ⟨es, kvs, e3, e4, e5.go fun vs ds z => z.mono fun b h => ⟨Up.up k1 r1 b h.1, h.2⟩⟩
end

theorem s_nm {i : Nat} {x : Str} {pos : Pos} (hN : X.N[i]? = some x) (hv : Vis X.env.scope x) (hd : (x == ("__debug__" : Str)) = false) (hc : (x == ("__classdict__" : Str)) = false) : Snd X Φ (.Name x pos) (.nm i) := by
  refine mkS (pe_weak (pe_var hN hv hd hc) fun σ H Q ⟨g, G, ρ, s, d, s', E, ee, q⟩ => ?_) fun _ => rfl
  rw [ev] at ee
  split at ee
  · rename_i y hy
    cases ee
    obtain ⟨v, h1, h2⟩ := E.env i _ hy
    exact ⟨v, h1, q v H ⟨Keep.refl, E.src, h2.weak⟩ fun z => nomatch z⟩
  · cases ee
theorem s_gl (C : XC X Φ gk k) {x : Str} {d : D} {pos : Pos} (h1 : X.env.scope.names.lookup x = some .globalImplicit) (h2 : (x, d) ∈ gk) (hd : (x == ("__debug__" : Str)) = false) (hl : leafD d = true) : Snd X Φ (.Name x pos) (.k d) := by
  obtain ⟨u, v, m1, m2, m3⟩ := C.gks _ h2
  have m3' : leafV v d := by
    rcases m3 with m3 | ⟨a, xs, vs, e1, e2, _⟩
    · exact m3
    · have e2 : d = .tuple xs := e2
      subst e2
      simp [leafD] at hl
  refine mkS (pe_weak (pe_glob h1 m1 m2 hd) fun σ H Q ⟨g, G, ρ, s, d, s', E, ee, q⟩ => ?_) fun _ => rfl
  cases ee
  exact q v H ⟨Keep.refl, E.src, m3'.dat⟩ fun z => nomatch z
theorem leaves_reads {h : Heap} : ∀ {vs : List V} {xs : List D} {us : List Value}, Leaves vs xs → Vals vs us → ∃ as, ReadsAll h us xs as
  | _, _, _, .nil, q => by
    cases q
    exact ⟨[], .nil⟩
  | _, _, _, .cons (v := v) (d := d) l t, q => by
    cases q with
    | @cons _ u _ _ q1 q2 =>
      obtain ⟨bs, rb⟩ := leaves_reads (h := h) t q2
      have : ∃ as, Reads h u d as := by
        cases v <;> cases d <;> first | exact l.elim | skip
        · cases q1
          exact ⟨[], .none⟩
        · cases l
          cases q1
          exact ⟨[], .bool _⟩
        · cases l
          obtain ⟨t, rfl⟩ := q1
          exact ⟨[], .int _ t⟩
        · cases l
          obtain ⟨t, rfl⟩ := q1
          exact ⟨[], .str _ t⟩
      obtain ⟨as, ra⟩ := this
      exact ⟨as ++ bs, .cons ra rb⟩
theorem op_inG (R : XR X) {a : Addr} {vs : List V} {xs : List D} (lv : Leaves vs xs) (hT : ∀ H, SqT X.K H a vs) : OpR X (compareOp .In) (fun x y H Q => ∃ G d b, Dat X.w G H x d ∧ y = .ref a ∧ dIn d (.tuple xs) = some b ∧ Q (.bl b) H) := by
  intro pins s σ H x y v u Q I rx ry ⟨G, dx, b, hx, hy, hd, q⟩
  subst hy
  cases ry
  obtain ⟨its, r, ⟨o, ho, hc, n, hdt⟩, hz⟩ := I.tuple (hT H)
  obtain ⟨as, ra⟩ := reads_of I hx rx
  obtain ⟨bs, rb⟩ := leaves_reads (h := s.heap) lv r
  have rt : Reads s.heap (.ref a) (.tuple xs) bs := .tuple ho hc hdt (by simpa using rb)
  unfold dIn at hd
  dsimp only at hd
  split at hd
  · cases hd
    rename_i hc
    exact SeqAt.in_tuple_reads rt ra (shaped_items.2 hc.2) (SeqAt.canLay_of_shaped hc.1) (room_in_shaped hc.1 (by have := R.un; omega)) ⟨.bl _, H, I, rfl, q⟩
  · split at hd
    · cases hd
      rename_i hc
      exact in_head ra rt hc.1 hc.2 (by have := R.un; omega) ⟨.bl _, H, I, rfl, q⟩
    · cases hd
theorem s_k {e : Expr} {v : V} {d : D} (h : PE X e (tC v)) (l : leafV v d) (he : ∀ whole, isTrue e X.env whole = (do let v ← whole; standAt e.pos; holding [v] (truthy v))) : Snd X Φ e (.k d) := by
  refine mkS (pe_weak h fun σ H Q ⟨g, G, ρ, s, d, s', E, ee, q⟩ => ?_) he
  cases ee
  exact q v H ⟨Keep.refl, E.src, l.dat⟩ fun z => nomatch z
theorem s_tup {es : List Expr} {ms : MEs} {x1 : Nat} {pos : Pos} (h : PA X es (tEs X.w Φ ms)) : Snd X Φ (.Tuple es x1 pos) (.tup ms) := by
  refine mkS (pe_weak (pe_tupF h) fun σ H Q ⟨g, G, ρ, s, d, s', E, ee, q⟩ => ?_) fun _ => rfl
  rw [ev] at ee
  obtain ⟨⟨ds, s1⟩, e1, e2⟩ := bind_some ee
  dsimp only at e2
  split at e2
  · cases e2
    rename_i hz
    refine ⟨g, G, ρ, s, ds, _, E, e1, fun vs H1 k1 r1 d1 => ⟨by rw [d1.length]; exact hz, fun p o hp ho => q _ _ (Ps.fin k1 r1 (same_new hp) (Dat.newT hp ho d1)) fun z => nomatch z⟩⟩
  · cases e2
theorem s_lst {es : List Expr} {ms : MEs} {pos : Pos} (h : PA X es (tEs X.w Φ ms)) : Snd X Φ (.List es pos) (.lst ms) := by
  refine mkS (pe_weak (pe_lst h) fun σ H Q ⟨g, G, ρ, s, d, s', E, ee, q⟩ => ?_) fun _ => rfl
  rw [ev] at ee
  obtain ⟨⟨ds, s1⟩, e1, e2⟩ := bind_some ee
  dsimp only at e2
  split at e2
  · cases e2
    rename_i hz
    refine ⟨g, G, ρ, s, ds, _, E, e1, fun vs H1 k1 r1 d1 => ⟨by rw [d1.length]; exact hz, fun p hp => q _ _ (Ps.fin k1 r1 (same_new hp) (Dat.newL hp d1)) fun _ => NewL.fin k1 r1 (NewL.mk hp d1)⟩⟩
  · cases e2
theorem s_op (o : O2) {a b : Expr} {p q : ME} {pos : Pos} (ha : Snd X Φ a p) (hb : Snd X Φ b q) : Snd X Φ (.BinOp a (o2Op o) b pos) (.op o p q) := by
  refine mkS (pe_weak (pe_op (op_o2D o) ha.pe hb.pe) fun σ H Q ⟨g, G, ρ, s, d, s', E, ee, q⟩ => ?_) fun _ => rfl
  rw [ev] at ee
  obtain ⟨⟨x, s1⟩, e1, e2⟩ := bind_some ee
  obtain ⟨⟨y, s2⟩, e7, e3⟩ := bind_some e2
  obtain ⟨z, e5, e4⟩ := map_some e3
  cases e4
  exact two E e1 e7 fun v u H2 k2 r2 d1 d2 => ⟨_, x, y, _, d1, d2, e5, fun v H' sm dd => q v H' (Ps.fin k2 r2 sm dd) fun z => nomatch z⟩
theorem s_neg {a : Expr} {p : ME} {pos : Pos} (ha : Snd X Φ a p) : Snd X Φ (.UnaryOp .USub a pos) (.neg p) := by
  refine mkS (pe_weak (pe_un un_neg ha.pe) fun σ H Q ⟨g, G, ρ, s, d, s', E, ee, q⟩ => ?_) fun _ => rfl
  rw [ev] at ee
  obtain ⟨⟨x, s1⟩, e1, e2⟩ := bind_some ee
  dsimp only at e2
  split at e2
  · cases e2
    exact one E e1 fun v H1 k1 r1 d1 => ⟨_, d1.intE, q _ _ ⟨k1, r1, .int _⟩ fun z => nomatch z⟩
  · cases e2
theorem s_cmp (C : XC X Φ gk k) (o : CO) {a b : Expr} {p q : ME} {pos : Pos} (ha : Snd X Φ a p) (hb : Snd X Φ b q) (hm : behindInMarks (coOp o) b = false) : Snd X Φ (.Compare a [coOp o] [b] pos) (.cmp o p q) := by
  constructor
  · refine pe_weak (pe_cmpR (op_cmpC C.xr o) ha.pe hb.pe hm) fun σ H Q ⟨g, G, ρ, s, d, s', E, ee, q⟩ => ?_
    rw [ev] at ee
    obtain ⟨⟨x, s1⟩, e1, e2⟩ := bind_some ee
    obtain ⟨⟨y, s2⟩, e7, e3⟩ := bind_some e2
    obtain ⟨z, e5, e4⟩ := map_some e3
    cases e4
    exact two E e1 e7 fun v u H2 k2 r2 d1 d2 => ⟨_, x, y, _, d1, d2, e5, q _ _ ⟨k2, r2, .bool _⟩ fun z => nomatch z⟩
  · refine pt_weak (pt_cmpR (op_cmpC C.xr o) ha.pe hb.pe hm) fun σ H Q ⟨g, G, ρ, s, d, s', b, E, ee, hb, q⟩ => ?_
    rw [ev] at ee
    obtain ⟨⟨x, s1⟩, e1, e2⟩ := bind_some ee
    obtain ⟨⟨y, s2⟩, e7, e3⟩ := bind_some e2
    obtain ⟨z, e5, e4⟩ := map_some e3
    cases e4
    cases hb
    exact two E e1 e7 fun v u H2 k2 r2 d1 d2 => ⟨_, x, y, _, d1, d2, e5, _, rfl, q _ k2 r2⟩
theorem s_inG (C : XC X Φ gk k) {x : Str} {a : Expr} {p : ME} {xs : List D} {pos pos2 : Pos} (ha : Snd X Φ a p) (h1 : X.env.scope.names.lookup x = some .globalImplicit) (h2 : (x, .tuple xs) ∈ gk) (hd : (x == ("__debug__" : Str)) = false) : Snd X Φ (.Compare a [.In] [.Name x pos2] pos) (.inG p xs) := by
  obtain ⟨u, v, m1, m2, m3⟩ := C.gks _ h2
  obtain ⟨ad, ys, vs, e1, e2, lv, hT⟩ : glT X.K v (.tuple xs) := by
    rcases m3 with m3 | m3
    · cases v <;> exact m3.elim
    · exact m3
  cases e2
  subst e1
  have hb : PE X (.Name x pos2) (tC (.ref ad)) := pe_glob h1 m1 m2 hd
  constructor
  · refine pe_weak (pe_cmpR (op_inG C.xr lv hT) ha.pe hb rfl) fun σ H Q ⟨g, G, ρ, s, d, s', E, ee, q⟩ => ?_
    rw [ev] at ee
    obtain ⟨⟨y, s1⟩, e1, e2⟩ := bind_some ee
    obtain ⟨z, e5, e4⟩ := map_some e2
    cases e4
    exact one E e1 fun v H1 k1 r1 d1 => ⟨_, y, _, d1, rfl, e5, q _ _ (Ps.fin k1 r1 (Same.refl _) (.bool _)) fun z => nomatch z⟩
  · refine pt_weak (pt_cmpR (op_inG C.xr lv hT) ha.pe hb rfl) fun σ H Q ⟨g, G, ρ, s, d, s', b, E, ee, hb, q⟩ => ?_
    rw [ev] at ee
    obtain ⟨⟨y, s1⟩, e1, e2⟩ := bind_some ee
    obtain ⟨z, e5, e4⟩ := map_some e2
    cases e4
    cases hb
    exact one E e1 fun v H1 k1 r1 d1 => ⟨_, y, _, d1, rfl, e5, _, rfl, q _ k1 r1⟩
theorem s_isN {a : Expr} {p : ME} {j : Nat} {pos pos' : Pos} (ha : Snd X Φ a p) : Snd X Φ (.Compare a [.Is] [.Constant .none j pos'] pos) (.isN p) := by
  constructor
  · refine pe_weak (pe_cmp (pc_isN ha.pe)) fun σ H Q ⟨g, G, ρ, s, d, s', E, ee, q⟩ => ?_
    rw [ev] at ee
    obtain ⟨⟨x, s1⟩, e1, e2⟩ := bind_some ee
    cases e2
    refine one E e1 fun v H1 k1 r1 d1 => ?_
    rw [none_iff d1]
    exact q _ _ ⟨k1, r1, .bool _⟩ fun z => nomatch z
  · refine pt_weak (pt_cmp (pc_isN ha.pe)) fun σ H Q ⟨g, G, ρ, s, d, s', b, E, ee, hb, q⟩ => ?_
    rw [ev] at ee
    obtain ⟨⟨x, s1⟩, e1, e2⟩ := bind_some ee
    cases e2
    cases hb
    refine one E e1 fun v H1 k1 r1 d1 => ?_
    rw [none_iff d1]
    exact ⟨_, rfl, q _ k1 r1⟩
theorem s_notN {a : Expr} {p : ME} {j : Nat} {pos pos' : Pos} (ha : Snd X Φ a p) : Snd X Φ (.Compare a [.IsNot] [.Constant .none j pos'] pos) (.notN p) := by
  constructor
  · refine pe_weak (pe_cmp (pc_notN ha.pe)) fun σ H Q ⟨g, G, ρ, s, d, s', E, ee, q⟩ => ?_
    rw [ev] at ee
    obtain ⟨⟨x, s1⟩, e1, e2⟩ := bind_some ee
    cases e2
    refine one E e1 fun v H1 k1 r1 d1 => ?_
    rw [none_iff d1]
    exact q _ _ ⟨k1, r1, .bool _⟩ fun z => nomatch z
  · refine pt_weak (pt_cmp (pc_notN ha.pe)) fun σ H Q ⟨g, G, ρ, s, d, s', b, E, ee, hb, q⟩ => ?_
    rw [ev] at ee
    obtain ⟨⟨x, s1⟩, e1, e2⟩ := bind_some ee
    cases e2
    cases hb
    refine one E e1 fun v H1 k1 r1 d1 => ?_
    rw [none_iff d1]
    exact ⟨_, rfl, q _ k1 r1⟩
theorem is_bool_gen {M : Model} {A : Around} {E : Value → Shared → Prop} {s : Shared} {Q : Value → Shared → Prop} {x : V} {v : Value} {b : Bool} (r : L2.RelV x v) (h : Q (.bool (v == .bool b)) s) : wpAny M A (compareOp .Is v (.bool b)) Q E s := by
  cases x <;> simp only [L2.RelV] at r <;> first | (subst r; exact wpAny_pure h) | (obtain ⟨t, rfl⟩ := r; exact wpAny_pure h)
theorem rel_bool {v : V} {u : Value} {b : Bool} (r : L2.RelV v u) : (u == Value.bool b) = decide (v = .bl b) := by
  cases v <;> simp only [L2.RelV] at r <;> first | (subst r; rename_i c; cases b <;> cases c <;> rfl) | (subst r; simp) | (obtain ⟨t, rfl⟩ := r; simp)
theorem pc_isB {a : Expr} {b : Bool} {ta : TE} {j : Nat} {pos' : Pos} (ha : PE X a ta) : PC X .Is a (.Constant (.bool b) j pos') (fun σ H Q => ta σ H fun x H1 => Q (.bl (decide (x = .bl b))) H1) := by
  refine ⟨fun pins s σ H Q I h => ?_⟩
  refine thn (ha.run pins s σ H _ I h) fun v s1 ⟨x, H1, I1, r1, q1⟩ => ?_
  exact Constant_bool (is_bool_gen r1 ⟨.bl _, H1, I1, by rw [rel_bool r1]; rfl, q1⟩)
theorem bool_iff {w : World} {G : Addr → Prop} {H : Hp} {v : V} {d : D} (b : Bool) (r : Dat w G H v d) : decide (v = .bl b) = isBool b d := by
  cases r <;> first | rfl | (rename_i c; cases b <;> cases c <;> rfl)
theorem s_isB {a : Expr} {b : Bool} {p : ME} {j : Nat} {pos pos' : Pos} (ha : Snd X Φ a p) : Snd X Φ (.Compare a [.Is] [.Constant (.bool b) j pos'] pos) (.isB b p) := by
  constructor
  · refine pe_weak (pe_cmp (pc_isB ha.pe)) fun σ H Q ⟨g, G, ρ, s, d, s', E, ee, q⟩ => ?_
    rw [ev] at ee
    obtain ⟨⟨x, s1⟩, e1, e2⟩ := bind_some ee
    cases e2
    refine one E e1 fun v H1 k1 r1 d1 => ?_
    rw [bool_iff b d1]
    exact q _ _ ⟨k1, r1, .bool _⟩ fun z => nomatch z
  · refine pt_weak (pt_cmp (pc_isB ha.pe)) fun σ H Q ⟨g, G, ρ, s, d, s', b', E, ee, hb, q⟩ => ?_
    rw [ev] at ee
    obtain ⟨⟨x, s1⟩, e1, e2⟩ := bind_some ee
    cases e2
    cases hb
    refine one E e1 fun v H1 k1 r1 d1 => ?_
    rw [bool_iff b d1]
    exact ⟨_, rfl, q _ k1 r1⟩
theorem isnot_bool_gen {M : Model} {A : Around} {E : Value → Shared → Prop} {s : Shared} {Q : Value → Shared → Prop} {x : V} {v : Value} {b : Bool} (r : L2.RelV x v) (h : Q (.bool (!(v == .bool b))) s) : wpAny M A (compareOp .IsNot v (.bool b)) Q E s := by
  cases x <;> simp only [L2.RelV] at r <;> first | (subst r; exact wpAny_pure h) | (obtain ⟨t, rfl⟩ := r; exact wpAny_pure h)
theorem pc_notB {a : Expr} {b : Bool} {ta : TE} {j : Nat} {pos' : Pos} (ha : PE X a ta) : PC X .IsNot a (.Constant (.bool b) j pos') (fun σ H Q => ta σ H fun x H1 => Q (.bl (!decide (x = .bl b))) H1) := by
  refine ⟨fun pins s σ H Q I h => ?_⟩
  refine thn (ha.run pins s σ H _ I h) fun v s1 ⟨x, H1, I1, r1, q1⟩ => ?_
  exact Constant_bool (isnot_bool_gen r1 ⟨.bl _, H1, I1, by rw [rel_bool r1]; rfl, q1⟩)
theorem s_notB {a : Expr} {b : Bool} {p : ME} {j : Nat} {pos pos' : Pos} (ha : Snd X Φ a p) : Snd X Φ (.Compare a [.IsNot] [.Constant (.bool b) j pos'] pos) (.not_ (.isB b p)) := by
  have hev : ∀ {ρ s d s'}, ev Φ.l (.not_ (.isB b p)) ρ s = some (d, s') → ∃ x, ev Φ.l p ρ s = some (x, s') ∧ d = .bool (!isBool b x) := by
    intro ρ s d s' ee
    rw [ev, ev] at ee
    obtain ⟨⟨x, s1⟩, e1, e2⟩ := bind_some ee
    obtain ⟨⟨x2, s2⟩, e3, e4⟩ := bind_some e1
    cases e4
    obtain ⟨t, e5, e6⟩ := map_some e2
    cases e5
    cases e6
    exact ⟨x2, e3, rfl⟩
  constructor
  · refine pe_weak (pe_cmp (pc_notB ha.pe)) fun σ H Q ⟨g, G, ρ, s, d, s', E, ee, q⟩ => ?_
    obtain ⟨x, e1, rfl⟩ := hev ee
    refine one E e1 fun v H1 k1 r1 d1 => ?_
    rw [bool_iff b d1]
    exact q _ _ ⟨k1, r1, .bool _⟩ fun z => nomatch z
  · refine pt_weak (pt_cmp (pc_notB ha.pe)) fun σ H Q ⟨g, G, ρ, s, d, s', b', E, ee, hb, q⟩ => ?_
    obtain ⟨x, e1, rfl⟩ := hev ee
    cases hb
    refine one E e1 fun v H1 k1 r1 d1 => ?_
    rw [bool_iff b d1]
    exact ⟨_, rfl, q _ k1 r1⟩
theorem s_bad {e : Expr} : Snd X Φ e .bad := by
  constructor
  · refine ⟨fun pins s σ H Q I ⟨g, G, ρ, t, d, s', E, ee, q⟩ => ?_⟩
    cases ee
  · refine ⟨fun pins s σ H Q I ⟨g, G, ρ, t, d, s', b, E, ee, hb, q⟩ => ?_⟩
    cases ee
theorem chn_core {a b c : ME} {o q : CO} {σ : L2.St} {H : Hp} {g : GS Φ.T} {G : Addr → Prop} {ρ : LS} {s s' : S1} {z : Bool} {Q : VK} (E : ES X.w g G σ H ρ s) (ee : ev Φ.l (.chn o q a b c) ρ s = some (.bool z, s'))
    (h : ∀ H', Keep g H H' → SrcR g H' s' → Q (.bl z) H') : tChain (rC2 X.w (dCmp o)) (rC2 X.w (dCmp q)) (tE X.w Φ a) (tE X.w Φ b) (tE X.w Φ c) σ H Q := by
  rw [ev] at ee
  obtain ⟨⟨x, s1⟩, e1, e2⟩ := bind_some ee
  obtain ⟨⟨y, s2⟩, e7, e3⟩ := bind_some e2
  obtain ⟨t, e8, e4⟩ := bind_some e3
  refine two E e1 e7 fun v u H2 k2 r2 d1 d2 => ⟨_, x, y, t, d1, d2, e8, t, rfl, ?_⟩
  cases t with
  | false =>
    cases e4
    exact iteF (h H2 k2 r2)
  | true =>
    obtain ⟨⟨w', s3⟩, e5, e6⟩ := bind_some (show (ev Φ.l c ρ s2).bind _ = some (PyData.bool z, s') from e4)
    obtain ⟨z', e9, e10⟩ := map_some e6
    cases e10
    refine iteT (one (E.step k2 r2) e5 fun v' H3 k3 r3 d3 => ⟨_, y, w', _, ?_, d3, e9, h H3 (k2.trans k3) r3⟩)
    exact (d2.keep k3 r2 (Up.gok E.src E.gok)).weak.mono fun b hb => hb.elim .inl fun z => .inr (k3.alive r3 z)
theorem s_chn (C : XC X Φ gk k) (o q : CO) {a b c : Expr} {pa pb pc : ME} {pos : Pos} (ha : Snd X Φ a pa) (hb : Snd X Φ b pb) (hc : Snd X Φ c pc) (hm : lastMarks [coOp o, coOp q] [b, c] = false) : Snd X Φ (.Compare a [coOp o, coOp q] [b, c] pos) (.chn o q pa pb pc) := by
  have hbool : ∀ {ρ s d s'}, ev Φ.l (.chn o q pa pb pc) ρ s = some (d, s') → ∃ z, d = .bool z := by
    intro ρ s d s' ee
    rw [ev] at ee
    obtain ⟨⟨x, s1⟩, e1, e2⟩ := bind_some ee
    obtain ⟨⟨y, s2⟩, e7, e3⟩ := bind_some e2
    obtain ⟨t, e8, e4⟩ := bind_some e3
    cases t with
    | false =>
      cases e4
      exact ⟨_, rfl⟩
    | true =>
      obtain ⟨⟨w', s3⟩, e5, e6⟩ := bind_some (show (ev Φ.l pc ρ s2).bind _ = some (d, s') from e4)
      obtain ⟨z', e9, e10⟩ := map_some e6
      cases e10
      exact ⟨_, rfl⟩
  constructor
  · refine pe_weak (pe_chain (op_cmpC C.xr o) (op_cmpC C.xr q) ha.pe hb.pe hc.pe hm) fun σ H Q ⟨g, G, ρ, s, d, s', E, ee, h⟩ => ?_
    obtain ⟨z, rfl⟩ := hbool ee
    exact chn_core E ee fun H' k1 r1 => h _ _ ⟨k1, r1, .bool _⟩ fun z => nomatch z
  · refine pt_weak (pt_chain (op_cmpC C.xr o) (op_cmpC C.xr q) ha.pe hb.pe hc.pe hm) fun σ H Q ⟨g, G, ρ, s, d, s', b, E, ee, hb, h⟩ => ?_
    obtain ⟨z, rfl⟩ := hbool ee
    cases hb
    exact chn_core E ee fun H' k1 r1 => ⟨_, rfl, h H' k1 r1⟩
end
end Os
end
section
set_option linter.all false
set_option maxRecDepth 100000
set_option maxHeartbeats 4000000
/-! OyH: xs[::-1], of a list or of a tuple. -/
namespace Os
open PySem PySem.Spec PyProof.Rows L2
section
variable {prog : Program} {w : World} {A : Around} {E : Value → Shared → Prop} {s : Shared}
theorem adjust_rev (n : Nat) : Builtin.Slice.sliceAdjust none none (-1) (n : Int) = ((n : Int) - 1, -1) := by
  unfold Builtin.Slice.sliceAdjust
  simp
theorem places_rev (n : Nat) : Builtin.Slice.slicePlaces ((n : Int) - 1) (-1) (-1) = n := by
  unfold Builtin.Slice.slicePlaces
  simp
  omega
theorem sliceApplied_rev {sl : Addr} {vl vu vs : Value} {n : Nat} {Q : Int × Int × Nat → Shared → Prop} (hs : s.heap.IsSliceOf sl vl vu vs) (pl : IsPart vl none) (pu : IsPart vu none) (ps : IsPart vs (some (-1))) (h : Q ((n : Int) - 1, -1, n) s) : wpAny (model prog w) A (Builtin.Slice.sliceApplied (.ref sl) (pure (n : Int))) Q E s := by
  obtain ⟨os, hos, hcs, hds⟩ := id hs
  unfold Builtin.Slice.sliceApplied Builtin.Slice.sliceFields
  refine wpAny_bind (wpAny_bind (wpAny_field hos hds (x := vl) rfl (wpAny_bind (wpAny_field hos hds (x := vu) rfl (wpAny_bind (wpAny_field hos hds (x := vs) rfl (wpAny_pure ?_)))))))
  refine wpAny_bind (HT.slicePart_ ps ?_)
  show wpAny _ _ (if ((-1 : Int) == 0) = true then _ else _) _ _ s
  rw [if_neg (by decide)]
  refine wpAny_bind (HT.slicePart_ pl (wpAny_bind (HT.slicePart_ pu (wpAny_bind (wpAny_pure ?_)))))
  show wpAny _ _ (match Builtin.Slice.sliceAdjust none none (-1) (n : Int) with | (lo, hi) => pure (lo, (-1 : Int), Builtin.Slice.slicePlaces lo hi (-1))) _ _ s
  rw [adjust_rev n]
  show wpAny _ _ (pure ((n : Int) - 1, (-1 : Int), Builtin.Slice.slicePlaces ((n : Int) - 1) (-1) (-1))) _ _ s
  rw [places_rev]
  exact wpAny_pure h
theorem pick_rev (xs : Array Value) : ((List.range xs.size).filterMap fun (m : Nat) => xs[(((xs.size : Int) - 1) + (m : Int) * (-1)).toNat]?).toArray = xs.toList.reverse.toArray := by
  congr 1
  have e : ∀ m : Nat, m < xs.size → xs[(((xs.size : Int) - 1) + (m : Int) * (-1)).toNat]? = xs.toList.reverse[m]? := fun m hm => by
    rw [List.getElem?_reverse (by simpa using hm), show (((xs.size : Int) - 1) + (m : Int) * (-1)).toNat = xs.size - 1 - m by omega]
    simp
  apply List.ext_getElem?
  intro i
  have len : ∀ n, n ≤ xs.size → ((List.range n).filterMap fun (m : Nat) => xs[(((xs.size : Int) - 1) + (m : Int) * (-1)).toNat]?) = xs.toList.reverse.take n := by
    intro n hn
    induction n with
    | zero => simp
    | succ n ih =>
      rw [List.range_succ, List.filterMap_append, ih (by omega)]
      have hl : n < xs.toList.reverse.length := by rw [List.length_reverse, Array.length_toList]; exact hn
      rw [List.filterMap_cons, e n (by omega), List.getElem?_eq_getElem hl]
      simp only [List.filterMap_nil]
      rw [List.take_add_one, List.getElem?_eq_getElem hl]
      rfl
  rw [len xs.size (Nat.le_refl _), List.take_of_length_le (by simp)]
theorem getItem_tuple_rev {t sl : Addr} {items : Array Value} {vl vu vs : Value} {Q : Value → Shared → Prop} (ht : IsTup s.heap t items) (hs : s.heap.IsSliceOf sl vl vu vs) (pl : IsPart vl none) (pu : IsPart vu none) (ps : IsPart vs (some (-1)))
    (h : Q (.ref s.heap.objs.size) { s with heap := s.heap.push { cls := .type "tuple", data := .seq items.toList.reverse.toArray } })
    (hsz : items.size ≤ sizeLine) : wpAny (model prog w) A (getItem (.ref t) (.ref sl)) Q E s := by
  have htake : sizeOk (.seq items.toList.reverse.toArray) := by
    show items.toList.reverse.toArray.size ≤ sizeLine
    simpa using hsz
  obtain ⟨os, hos, hcs, hds⟩ := id hs
  have hTs : s.TypeIs (.ref sl) "slice" := ⟨os, hos, hcs⟩
  unfold getItem
  try with_reducible refine wpAny_holding ?_
  first | refine wpAny_bind (wpAny_pure ?_) | skip
  refine wpAny_bind (wpAny_sequenceKey ht.typeIs (by decide) ?_)
  refine wpAny_bind (wpAny_callSpecial?_slot (name := Str.ofString "__getitem__") ht.typeIs PyProof.Rows.slot_tuple_getitem
    (wpAny_call_entry PyProof.Rows.slot_tuple_getitem ht.typeIs entry_tuple_getitem ?_ (args_tuple_getitem _ _)))
  show wpAny _ _ (Builtin.Tuple.tupleItemsOf (.ref t) >>= _) _ _ s
  refine wpAny_bind (tupleItemsOf_ ht ?_)
  refine wpAny_bind (wpAny_typeOf hTs ?_)
  rw [if_pos (by decide)]
  refine wpAny_bind (sliceApplied_rev hs pl pu ps ?_)
  show wpAny _ _ (if ((((items.size : Int) - 1) == 0 && (-1 : Int) == 1 && items.size == items.size) = true) then _ else _) _ _ s
  rw [if_neg (by simp), pick_rev]
  first
    | exact wpAny_bind (m := Builtin.Tuple.tupleExact _) (wpAny_newObj_type (wpAny_pure ⟨_, rfl, wpAny_pure h⟩) htake)
    | exact wpAny_bind (m := Builtin.Tuple.tupleExact _) (wpAny_newObj_type (wpAny_bind (wpAny_pure (wpAny_pure ⟨_, rfl, wpAny_pure h⟩))) htake)
    | exact wpAny_bind (wpAny_bind (m := Builtin.Tuple.tupleExact _) (wpAny_newObj_type (wpAny_pure (wpAny_pure ⟨_, rfl, wpAny_pure h⟩)) htake))
    | exact wpAny_bind (wpAny_bind (m := Builtin.Tuple.tupleExact _) (wpAny_newObj_type (wpAny_pure ⟨_, rfl, wpAny_pure h⟩) htake))
end
section
variable {X : Cx}
def tRev2 (K : PySem.W.Frag) (te : TE) : TE := fun σ H Q => te σ H fun x H1 => ∃ a xs, x = .ref a ∧ ((SqL K H1 a xs ∧ ∀ p, H1 p = none → Q (.ref p) (upd H1 p (.lst xs.reverse))) ∨ (SqT K H1 a xs ∧ TupO H1 Q xs.reverse))
theorem pe_rev2 {e : Expr} {te : TE} {k : Nat} {p1 p2 p3 pos : Pos} (he : PE X e te) : PE X (.Subscript e (.Slice none none (some (.UnaryOp .USub (.Constant (.int 1) k p1) p2)) p3) pos) (tRev2 X.K te) := by
  refine ⟨fun pins s σ H Q I h => ?_⟩
  refine Subscript_ (thn (he.run pins s σ H _ I h) fun v s1 ⟨x, H1, I1, r1, q1⟩ => ?_)
  obtain ⟨a, xs, ex, hx⟩ := q1
  subst ex
  cases r1
  have hst : PO X (some (.UnaryOp .USub (.Constant (.int 1) k p1) p2)) (tPart (tUn (rU fun i => .int (-i)) (tC (.int 1)))) := po_some (pe_un un_neg pe_int)
  refine wpAny_Slice (thn (po_none.run pins s1 σ H1 (fun o H2 => o = none ∧ H2 = H1) I1 ⟨rfl, rfl⟩) fun vl s2 ⟨l, H2, I2, pl, el, e2⟩ => ?_)
  subst el e2
  refine thn (po_none.run pins s2 σ H2 (fun o H3 => o = none ∧ H3 = H2) I2 ⟨rfl, rfl⟩) fun vu s3 ⟨u, H3, I3, pu, eu, e3⟩ => ?_
  subst eu e3
  refine thn (hst.run pins s3 σ H3 (fun o H4 => o = some (-1) ∧ H4 = H3) I3 ⟨1, rfl, -1, rfl, rfl, rfl⟩) fun vs s4 ⟨o, H4, I4, ps, eo, e4⟩ => ?_
  subst eo e4
  have I5 : Inv X pins σ H4 { s4 with heap := s4.heap.push { cls := .type "slice", data := .fields #[vl, vu, vs] } } := I4.kept (t' := s4.toks) fun b ob q => Heap.get?_push_of_some _ q
  rcases hx with ⟨hx, q⟩ | ⟨hx, q⟩
  · obtain ⟨its, r, ht, hz⟩ := I5.list hx
    have hlen := r.length
    show wpAny (model X.prog X.w) X.A (subscriptTail e (.Slice none none (some (.UnaryOp .USub (.Constant (.int 1) k p1) p2)) p3) (.ref a) (.ref s4.heap.objs.size)) (EP X pins σ Q) X.xe { s4 with heap := s4.heap.push { cls := .type "slice", data := .fields #[vl, vu, vs] } }
    refine tail_any (ops := [.ref a, .ref s4.heap.objs.size]) ht.isList.typeIs (PySem.slot_list_getitem.lookup) ?_ (by with_unfolding_all rfl)
    refine wpAny_getItem_list_slice ht.isList (Heap.IsSliceOf.new _ vl vu vs) pl pu ps (by decide) ?_ (by rw [List.size_toArray]; omega)
    rw [PySem.W.krv_pick]
    refine ⟨.ref _, _, I5.laid (t' := s4.toks) (o := .lst xs.reverse) (fun b ob q => Heap.get?_push_of_some _ q) (Nat.le_refl _) ?_, rfl, q _ (I5.hok.fresh (Nat.le_refl _))⟩
    exact ⟨by rw [List.length_reverse]; exact hz, _, 0, r.reverse, Heap.get?_push_size _ rfl⟩
  · obtain ⟨its, r, ht, hz⟩ := I5.tuple hx
    have hlen := r.length
    show wpAny (model X.prog X.w) X.A (subscriptTail e (.Slice none none (some (.UnaryOp .USub (.Constant (.int 1) k p1) p2)) p3) (.ref a) (.ref s4.heap.objs.size)) (EP X pins σ Q) X.xe { s4 with heap := s4.heap.push { cls := .type "slice", data := .fields #[vl, vu, vs] } }
    refine tail_any (ops := [.ref a, .ref s4.heap.objs.size]) ht.typeIs PyProof.Rows.slot_tuple_getitem.lookup ?_ (by with_unfolding_all rfl)
    refine getItem_tuple_rev ht (Heap.IsSliceOf.new _ vl vu vs) pl pu ps ?_ (by rw [List.size_toArray]; omega)
    exact newTup (tk := s4.toks) I5 (fun b ob q => q) r.reverse (by rw [List.length_reverse]; exact hz) q
end
end Os
end
section
set_option linter.all false
set_option maxRecDepth 100000
set_option maxHeartbeats 4000000
/-! OsH: each construct by the evaluator: and, or, places, slices, calls. -/
namespace Os
open PySem PySem.Spec PyProof.Rows L2

section
variable {X : Cx} {Φ : Fs} {gk : List (Str × D)} {k : Nat}
/-- and, or: as a value, as a test -/
structure SndB (X : Cx) (Φ : Fs) (o : BoolOp) (es : List Expr) (m : ME) : Prop where
  pe : ∀ pos, PE X (.BoolOp o es pos) (tE X.w Φ m)
  pw : ∀ pos, PW X (.BoolOp o es pos) (tT X.w Φ m)
theorem b_one {o : BoolOp} {a : Expr} {m : ME} (h : Snd X Φ a m) : SndB X Φ o [a] m := by
  refine ⟨fun pos => pe_one h.pe, fun pos => ?_⟩
  cases o
  · exact pw_and1 h.pt
  · exact pw_or1 h.pt
theorem b_cons {o : BoolOp} {a b : Expr} {r : List Expr} {m n : ME} (ha : Snd X Φ a m) (hb : SndB X Φ o (b :: r) n) : SndB X Φ o (a :: b :: r) (coB o m n) := by
  refine ⟨fun pos => ?_, fun pos => ?_⟩
  · cases o
    · refine pe_weak (pe_andT ha.pe (hb.pe pos)) fun σ H Q ⟨g, G, ρ, s, d, s', E, ee, q⟩ => ?_
      replace ee : ev Φ.l (.and_ m n) ρ s = some (d, s') := ee
      rw [ev] at ee
      obtain ⟨⟨x, s1⟩, e1, e2⟩ := bind_some ee
      obtain ⟨t, e3, e4⟩ := bind_some e2
      refine one E e1 fun v H1 k1 r1 d1 => ⟨t, tru_of d1 e3, ?_⟩
      cases t with
      | true => exact iteT (one (E.step k1 r1) e4 fun u H2 k2 r2 d2 => q _ _ ⟨k1.trans k2, r2, d2.mono fun b h => Up.up k1 r1 b h⟩ fun z => nomatch z)
      | false =>
        cases e4
        exact iteF (q _ _ ⟨k1, r1, d1⟩ fun z => nomatch z)
    · refine pe_weak (pe_orT ha.pe (hb.pe pos)) fun σ H Q ⟨g, G, ρ, s, d, s', E, ee, q⟩ => ?_
      replace ee : ev Φ.l (.or_ m n) ρ s = some (d, s') := ee
      rw [ev] at ee
      obtain ⟨⟨x, s1⟩, e1, e2⟩ := bind_some ee
      obtain ⟨t, e3, e4⟩ := bind_some e2
      refine one E e1 fun v H1 k1 r1 d1 => ⟨t, tru_of d1 e3, ?_⟩
      cases t with
      | false => exact iteF (one (E.step k1 r1) e4 fun u H2 k2 r2 d2 => q _ _ ⟨k1.trans k2, r2, d2.mono fun b h => Up.up k1 r1 b h⟩ fun z => nomatch z)
      | true =>
        cases e4
        exact iteT (q _ _ ⟨k1, r1, d1⟩ fun z => nomatch z)
  · cases o
    · refine pw_weak (pw_and ha.pt (hb.pw pos)) fun σ H Q ⟨g, G, ρ, s, d, s', c, E, ee, hc, q⟩ => ?_
      replace ee : ev Φ.l (.and_ m n) ρ s = some (d, s') := ee
      rw [ev] at ee
      obtain ⟨⟨x, s1⟩, e1, e2⟩ := bind_some ee
      obtain ⟨t, e3, e4⟩ := bind_some e2
      refine ⟨g, G, ρ, s, x, s1, t, E, e1, e3, fun H1 k1 r1 => ?_⟩
      cases t with
      | true => exact iteT ⟨g, _, ρ, s1, d, s', c, E.step k1 r1, e4, hc, fun H2 k2 r2 => q _ (k1.trans k2) r2⟩
      | false =>
        cases e4
        rw [e3] at hc
        cases hc
        exact iteF (q _ k1 r1)
    · refine pw_weak (pw_or ha.pt (hb.pw pos)) fun σ H Q ⟨g, G, ρ, s, d, s', c, E, ee, hc, q⟩ => ?_
      replace ee : ev Φ.l (.or_ m n) ρ s = some (d, s') := ee
      rw [ev] at ee
      obtain ⟨⟨x, s1⟩, e1, e2⟩ := bind_some ee
      obtain ⟨t, e3, e4⟩ := bind_some e2
      refine ⟨g, G, ρ, s, x, s1, t, E, e1, e3, fun H1 k1 r1 => ?_⟩
      cases t with
      | false => exact iteF ⟨g, _, ρ, s1, d, s', c, E.step k1 r1, e4, hc, fun H2 k2 r2 => q _ (k1.trans k2) r2⟩
      | true =>
        cases e4
        rw [e3] at hc
        cases hc
        exact iteT (q _ k1 r1)
theorem s_bo {o : BoolOp} {es : List Expr} {m : ME} {pos : Pos} (h : SndB X Φ o es m) : Snd X Φ (.BoolOp o es pos) m := ⟨h.pe pos, (h.pw pos).pt⟩
theorem s_not {a : Expr} {p : ME} {pos : Pos} (ha : Snd X Φ a p) : Snd X Φ (.UnaryOp .Not a pos) (.not_ p) := by
  constructor
  · refine pe_weak (pe_notT ha.pe) fun σ H Q ⟨g, G, ρ, s, d, s', E, ee, q⟩ => ?_
    rw [ev] at ee
    obtain ⟨⟨x, s1⟩, e1, e2⟩ := bind_some ee
    obtain ⟨t, e3, e4⟩ := map_some e2
    cases e4
    exact one E e1 fun v H1 k1 r1 d1 => ⟨t, tru_of d1 e3, q _ _ ⟨k1, r1, .bool _⟩ fun z => nomatch z⟩
  · refine pt_weak (pt_not ha.pt) fun σ H Q ⟨g, G, ρ, s, d, s', c, E, ee, hc, q⟩ => ?_
    rw [ev] at ee
    obtain ⟨⟨x, s1⟩, e1, e2⟩ := bind_some ee
    obtain ⟨t, e3, e4⟩ := map_some e2
    cases e4
    cases hc
    exact ⟨g, G, ρ, s, x, s', t, E, e1, e3, fun H1 k1 r1 => q _ k1 r1⟩
theorem pt_ite {c a b : Expr} {tc ta tb : TT} {pos : Pos} (hc : PT X c tc) (ha : PT X a ta) (hb : PT X b tb) : PT X (.IfExp c a b pos) (fun σ H Q => tc σ H fun k H1 => if k = true then ta σ H1 Q else tb σ H1 Q) := by
  refine ⟨fun pins s σ H Q I h => ?_⟩
  show wpAny _ _ (isTrue c X.env (eval c X.env) >>= fun k => if k = true then isTrue a X.env (eval a X.env) else isTrue b X.env (eval b X.env)) _ _ s
  refine wpAny_bind (thn (hc.run pins s σ H _ I h) fun d s1 ⟨H1, I1, q1⟩ => ?_)
  cases d with
  | true => exact ha.run pins s1 σ H1 Q I1 q1
  | false => exact hb.run pins s1 σ H1 Q I1 q1
theorem s_ite {c a b : Expr} {pc pa pb : ME} {pos : Pos} (hc : Snd X Φ c pc) (ha : Snd X Φ a pa) (hb : Snd X Φ b pb) : Snd X Φ (.IfExp c a b pos) (.ite pc pa pb) := by
  constructor
  · refine pe_weak (pe_ifExp hc.pt ha.pe hb.pe) fun σ H Q ⟨g, G, ρ, s, d, s', E, ee, q⟩ => ?_
    rw [ev] at ee
    obtain ⟨⟨x, s1⟩, e1, e2⟩ := bind_some ee
    obtain ⟨t, e3, e4⟩ := bind_some e2
    refine ⟨g, G, ρ, s, x, s1, t, E, e1, e3, fun H1 k1 r1 => ?_⟩
    cases t with
    | true => exact iteT ⟨g, _, ρ, s1, d, s', E.step k1 r1, e4, fun v H2 p n => q v H2 (Ps.comp E k1 r1 p) fun z => NewL.fin k1 r1 (n (by rw [newE, Bool.and_eq_true] at z; exact z.1))⟩
    | false => exact iteF ⟨g, _, ρ, s1, d, s', E.step k1 r1, e4, fun v H2 p n => q v H2 (Ps.comp E k1 r1 p) fun z => NewL.fin k1 r1 (n (by rw [newE, Bool.and_eq_true] at z; exact z.2))⟩
  · refine pt_weak (pt_ite hc.pt ha.pt hb.pt) fun σ H Q ⟨g, G, ρ, s, d, s', b, E, ee, hb, q⟩ => ?_
    rw [ev] at ee
    obtain ⟨⟨x, s1⟩, e1, e2⟩ := bind_some ee
    obtain ⟨t, e3, e4⟩ := bind_some e2
    refine ⟨g, G, ρ, s, x, s1, t, E, e1, e3, fun H1 k1 r1 => ?_⟩
    cases t with
    | true => exact iteT ⟨g, _, ρ, s1, d, s', b, E.step k1 r1, e4, hb, fun H2 k2 r2 => q _ (k1.trans k2) r2⟩
    | false => exact iteF ⟨g, _, ρ, s1, d, s', b, E.step k1 r1, e4, hb, fun H2 k2 r2 => q _ (k1.trans k2) r2⟩
theorem s_idx (C : XC X Φ gk k) {a i : Expr} {p q : ME} {pos : Pos} (ha : Snd X Φ a p) (hi : Snd X Φ i q) (hx : PlainIx i) : Snd X Φ (.Subscript a i pos) (.idx p q) := by
  refine mkS (pe_weak (pe_ix (ix_D C.xr) ha.pe hi.pe hx) fun σ H Q ⟨g, G, ρ, s, d, s', E, ee, h⟩ => ?_) fun _ => rfl
  rw [ev] at ee
  obtain ⟨⟨x, s1⟩, e1, e2⟩ := bind_some ee
  obtain ⟨⟨y, s2⟩, e3, e4⟩ := bind_some e2
  obtain ⟨z, e5, e6⟩ := map_some e4
  cases e6
  exact two E e1 e3 fun v u H2 k2 r2 d1 d2 => ⟨_, x, y, _, d1, d2, e5, fun v H' sm dd => h v H' (Ps.fin k2 r2 sm dd) fun z => nomatch z⟩
theorem o_no : PO X none (tMO X.w Φ .no) := po_weak po_none fun σ H Q ⟨g, G, ρ, s, i, s', E, ee, q⟩ => by
  cases ee
  exact q H Keep.refl E.src
theorem o_yes {e : Expr} {m : ME} (h : Snd X Φ e m) : PO X (some e) (tMO X.w Φ (.yes m)) := po_weak (po_some h.pe) fun σ H Q ⟨g, G, ρ, s, i, s', E, ee, q⟩ => by
  rw [evo] at ee
  obtain ⟨⟨x, s1⟩, e1, e2⟩ := bind_some ee
  obtain ⟨j, e3, e4⟩ := map_some e2
  cases e4
  refine one E e1 fun v H1 k1 r1 d1 => ?_
  unfold bnd at e3
  split at e3
  · cases e3
    exact ⟨_, d1.intE, q H1 k1 r1⟩
  · cases e3
theorem s_slc {a : Expr} {lo hi : Option Expr} {p : ME} {l h : MO} {p2 pos : Pos} (ha : Snd X Φ a p) (hl : PO X lo (tMO X.w Φ l)) (hh : PO X hi (tMO X.w Φ h)) : Snd X Φ (.Subscript a (.Slice lo hi none p2) pos) (.slc p l h) := by
  refine mkS (pe_weak (pe_slice sl_D ha.pe hl hh) fun σ H Q ⟨g, G, ρ, s, d, s', E, ee, q⟩ => ?_) fun _ => rfl
  rw [ev] at ee
  obtain ⟨⟨x, s1⟩, e1, e2⟩ := bind_some ee
  obtain ⟨⟨i, s2⟩, e3, e4⟩ := bind_some e2
  obtain ⟨⟨j, s3⟩, e5, e6⟩ := bind_some e4
  obtain ⟨z, e7, e8⟩ := map_some e6
  cases e8
  refine one E e1 fun v H1 k1 r1 d1 => ⟨g, _, ρ, s1, i, s2, E.step k1 r1, e3, fun H2 k2 r2 => ⟨g, _, ρ, s2, j, _, (E.step k1 r1).step k2 r2, e5, fun H3 k3 r3 => ?_⟩⟩
  have k12 := k1.trans k2
  have dd : Dat X.w (Up G H) H3 v x := (d1.keep k2 r1 (Up.gok E.src E.gok)).keep k3 r2 (Up.gok E.src E.gok)
  exact ⟨_, x, _, dd, e7, fun v H' sm dd => q v H' (Ps.fin (k12.trans k3) r3 sm dd) fun z => nomatch z⟩
theorem op_catN : OpR X (binaryOp .Add) (fun x y H Q => ∃ G xs ys, Dat X.w G H x (.list xs) ∧ Dat X.w G H y (.list ys) ∧ xs.length + ys.length ≤ sizeLine ∧ ∀ p vs, H p = none → Dats X.w G H vs (xs ++ ys) → Q (.ref p) (upd H p (.lst vs))) := by
  intro pins s σ H x y v u Q I rx ry ⟨G, xs, ys, hx, hy, hz, q⟩
  obtain ⟨a, vs, rfl, _, e, r⟩ := hx.listE
  obtain ⟨b, us, rfl, _, e', r'⟩ := hy.listE
  exact op_cat pins s σ H _ _ v u Q I rx ry ⟨_, _, _, _, rfl, rfl, e, e', by rw [r.length, r'.length]; exact hz, fun p hp => q p _ hp (r.append r')⟩
theorem s_catL {a b : Expr} {p q : ME} {pos : Pos} (ha : Snd X Φ a p) (hb : Snd X Φ b q) : Snd X Φ (.BinOp a .Add b pos) (.catL p q) := by
  refine mkS (pe_weak (pe_op op_catN ha.pe hb.pe) fun σ H Q ⟨g, G, ρ, s, d, s', E, ee, q⟩ => ?_) fun _ => rfl
  rw [ev] at ee
  obtain ⟨⟨x, s1⟩, e1, e2⟩ := bind_some ee
  obtain ⟨⟨y, s2⟩, e7, e3⟩ := bind_some e2
  dsimp only at e3
  split at e3
  · split at e3
    · rename_i hz
      cases e3
      exact two E e1 e7 fun v u H2 k2 r2 d1 d2 => ⟨_, _, _, d1, d2, hz, fun p vs hp r => q _ _ (Ps.fin k2 r2 (same_new hp) (Dat.newL hp r)) fun _ => NewL.fin k2 r2 (NewL.mk hp r)⟩
    · cases e3
  · cases e3
theorem sl_N : SlR X (fun x lo hi H Q => ∃ G xs, Dat X.w G H x (.list xs) ∧ ∀ p vs, H p = none → Dats X.w G H vs (cutD xs lo hi) → Q (.ref p) (upd H p (.lst vs))) := by
  intro pins s σ H x v vl vu lo hi sl Q I rx hs pl pu ⟨G, xs, hx, q⟩
  obtain ⟨a, vs, rfl, _, e, r⟩ := hx.listE
  exact sl_list pins s σ H _ v vl vu _ _ sl Q I rx hs pl pu ⟨_, _, rfl, SqL.of e, fun p hp => q p _ hp (r.cut _ _)⟩
theorem s_sll {a : Expr} {lo hi : Option Expr} {p : ME} {l h : MO} {p2 pos : Pos} (ha : Snd X Φ a p) (hl : PO X lo (tMO X.w Φ l)) (hh : PO X hi (tMO X.w Φ h)) : Snd X Φ (.Subscript a (.Slice lo hi none p2) pos) (.sll p l h) := by
  refine mkS (pe_weak (pe_slice sl_N ha.pe hl hh) fun σ H Q ⟨g, G, ρ, s, d, s', E, ee, q⟩ => ?_) fun _ => rfl
  rw [ev] at ee
  obtain ⟨⟨x, s1⟩, e1, e2⟩ := bind_some ee
  obtain ⟨⟨i, s2⟩, e3, e4⟩ := bind_some e2
  obtain ⟨⟨j, s3⟩, e5, e6⟩ := bind_some e4
  dsimp only at e6
  split at e6
  · cases e6
    refine one E e1 fun v H1 k1 r1 d1 => ⟨g, _, ρ, s1, i, s2, E.step k1 r1, e3, fun H2 k2 r2 => ⟨g, _, ρ, s2, j, _, (E.step k1 r1).step k2 r2, e5, fun H3 k3 r3 => ?_⟩⟩
    have k12 := k1.trans k2
    have dd : Dat X.w (Up G H) H3 v _ := (d1.keep k2 r1 (Up.gok E.src E.gok)).keep k3 r2 (Up.gok E.src E.gok)
    exact ⟨_, _, dd, fun p vs hp r => q _ _ (Ps.fin (k12.trans k3) r3 (same_new hp) (Dat.newL hp r)) fun _ => NewL.fin (k12.trans k3) r3 (NewL.mk hp r)⟩
  · cases e6
theorem s_revl {a : Expr} {p : ME} {k : Nat} {p1 p2 p3 pos : Pos} (ha : Snd X Φ a p) : Snd X Φ (.Subscript a (.Slice none none (some (.UnaryOp .USub (.Constant (.int 1) k p1) p2)) p3) pos) (.revl p) := by
  refine mkS (pe_weak (pe_rev2 ha.pe) fun σ H Q ⟨g, G, ρ, s, d, s', E, ee, q⟩ => ?_) fun _ => rfl
  rw [ev] at ee
  obtain ⟨⟨x, s1⟩, e1, e2⟩ := bind_some ee
  dsimp only at e2
  split at e2
  · cases e2
    refine one E e1 fun v H1 k1 r1 d1 => ?_
    obtain ⟨a, vs, rfl, _, e, r⟩ := d1.listE
    exact ⟨_, _, rfl, .inl ⟨SqL.of e, fun p hp => q _ _ (Ps.fin k1 r1 (same_new hp) (Dat.newL hp r.rev)) fun _ => NewL.fin k1 r1 (NewL.mk hp r.rev)⟩⟩
  · cases e2
    refine one E e1 fun v H1 k1 r1 d1 => ?_
    obtain ⟨a, o, vs, rfl, e, _, r⟩ := d1.tupE
    exact ⟨_, _, rfl, .inr ⟨SqT.fz e, fun p o hp ho => q _ _ (Ps.fin k1 r1 (same_new hp) (Dat.newT hp ho r.rev)) fun z => nomatch z⟩⟩
  · cases e2

/-! ### arguments -/
theorem p_nil : PA X [] (tEs X.w Φ .nil) := pa_weak pa_nil fun σ H Q ⟨g, G, ρ, s, ds, s', E, ee, q⟩ => by
  cases ee
  exact q [] H Keep.refl E.src .nil
theorem p_cons {e : Expr} {es : List Expr} {m : ME} {ms : MEs} (h : Snd X Φ e m) (hn : ∀ (es : List Expr) (env : Env), starEach (e :: es) env = (false, eval e env) :: starEach es env) (hr : PA X es (tEs X.w Φ ms)) : PA X (e :: es) (tEs X.w Φ (.cons m ms)) :=
  pa_weak (pa_cons h.pe hr (hn _ _)) fun σ H Q ⟨g, G, ρ, s, ds, s', E, ee, q⟩ => by
    rw [evs] at ee
    obtain ⟨⟨x, s1⟩, e1, e2⟩ := bind_some ee
    obtain ⟨⟨xs, s2⟩, e3, e4⟩ := map_some e2
    cases e4
    exact one E e1 fun v H1 k1 r1 d1 => ⟨g, _, ρ, s1, xs, _, E.step k1 r1, e3, fun vs H2 k2 r2 d2 => q _ _ (k1.trans k2) r2 (.cons (d1.keep k2 r1 (Up.gok E.src E.gok)) (d2.mono fun b h => Up.up k1 r1 b h))⟩
theorem p_star {e : Expr} {es : List Expr} {p : Pos} {m : ME} {ms : MEs} (h : Snd X Φ e m) (hr : PA X es (tEs X.w Φ ms)) : PA X (.Starred e p :: es) (tEs X.w Φ (.star m ms)) :=
  pa_weak (StX.pa_star h.pe hr) fun σ H Q ⟨g, G, ρ, s, ds, s', E, ee, q⟩ => by
    rw [evs] at ee
    obtain ⟨⟨x, s1⟩, e1, e2⟩ := bind_some ee
    obtain ⟨ys, e3, e4⟩ := bind_some e2
    obtain ⟨⟨xs, s2⟩, e5, e6⟩ := map_some e4
    cases e6
    refine one E e1 fun v H1 k1 r1 d1 => ?_
    have h0 : ∃ p vs, v = .ref p ∧ (SqT X.K H1 p vs ∨ SqL X.K H1 p vs) ∧ Dats X.w (Up G H) H1 vs ys := by
      cases d1 with
      | list g e r =>
        cases e3
        exact ⟨_, _, rfl, .inr (SqL.of e), r⟩
      | tup e n r =>
        cases e3
        exact ⟨_, _, rfl, .inl (SqT.fz e), r⟩
      | _ => cases e3
    obtain ⟨a, vs, rfl, h1, h2⟩ := h0
    exact ⟨a, vs, rfl, h1, g, _, ρ, s1, xs, _, E.step k1 r1, e5, fun us H2 k2 r2 d2 => q _ _ (k1.trans k2) r2 ((h2.keep k2 r1 (Up.gok E.src E.gok)).append (d2.mono fun b h => Up.up k1 r1 b h))⟩
theorem q_nil : PA X [] (tAs X.w Φ .nil) := pa_weak pa_nil fun σ H Q ⟨g, G, ρ, s, ds, s', E, ee, q⟩ => by
  cases ee
  exact q [] H Keep.refl E.src .nil
theorem q_cons {e : Expr} {es : List Expr} {m : ME} {ms : MAs} (h : Snd X Φ e m) (hn : ∀ (es : List Expr) (env : Env), starEach (e :: es) env = (false, eval e env) :: starEach es env) (hr : PA X es (tAs X.w Φ ms)) : PA X (e :: es) (tAs X.w Φ (.cons m ms)) :=
  pa_weak (pa_cons h.pe hr (hn _ _)) fun σ H Q ⟨g, G, ρ, s, ds, s', E, ee, q⟩ => by
    rw [eva] at ee
    obtain ⟨⟨x, s1⟩, e1, e2⟩ := bind_some ee
    obtain ⟨⟨xs, s2⟩, e3, e4⟩ := map_some e2
    cases e4
    exact one E e1 fun v H1 k1 r1 d1 => ⟨g, _, ρ, s1, xs, _, E.step k1 r1, e3, fun vs H2 k2 r2 d2 => q _ _ (k1.trans k2) r2 (.cons (d1.keep k2 r1 (Up.gok E.src E.gok)) (d2.keep fun v x z => z.mono fun b h => Up.up k1 r1 b h))⟩
theorem q_src {i : Nat} {x : Str} {pos : Pos} {es : List Expr} {ms : MAs} (hN : X.N[i]? = some x) (hv : Vis X.env.scope x) (hd : (x == ("__debug__" : Str)) = false) (hc : (x == ("__classdict__" : Str)) = false) (hr : PA X es (tAs X.w Φ ms)) : PA X (.Name x pos :: es) (tAs X.w Φ (.src i ms)) :=
  pa_weak (pa_cons (pe_var hN hv hd hc) hr) fun σ H Q ⟨g, G, ρ, s, ds, s', E, ee, q⟩ => by
    rw [eva] at ee
    split at ee
    · rename_i hy
      obtain ⟨⟨xs, s2⟩, e3, e4⟩ := map_some ee
      cases e4
      obtain ⟨a, c, eg, h1⟩ := E.esrc i hy
      exact ⟨_, h1, g, G, ρ, s, xs, _, E, e3, fun vs H2 k2 r2 d2 => q _ _ k2 r2 (.src eg d2)⟩
    · cases ee
/-- the starred parts of an argument list: none -/
theorem any_back {pos : Pos} {es : List Expr} {env : Env} (h : ∀ x ∈ starEach es env, x.1 = false) : (backTo pos (starEach es env)).any (·.1) = false := by
  unfold backTo
  rw [List.any_map, List.any_eq_false]
  intro x hx
  have := h x hx
  simp [this]

/-! ### calls -/
theorem call_fn {P : VK} {pins : List (Addr × Obj)} {σ : L2.St} {H : Hp} {s : Shared} {us : List Value} {vs : List V} {f : Addr} {fd : FuncData} {ps : List Str} {sp : Sp} (F : FnG X.prog X.w X.K X.mg X.base k f fd ps sp) (hr : RoomG k X.A) (hb : Binds X.K fd ps [])
    (I : Inv X pins σ H s) (r : Vals vs us) (h : sp vs H P E0) : wpAny (model X.prog X.w) X.A (call (.ref f) us) (EP X pins σ P) X.xe s := by
  have hl : (us ++ []).length = ps.length := by
    rw [List.append_nil, ← r.length]
    exact F.size _ _ _ _ h
  have hbb := hb s us I.kIn hl
  rw [List.append_nil] at hbb
  refine wpAny_call (codeAny_mono (F.go X.A X.stack s H ⟨us, []⟩ us vs P E0 hr I.env0 hbb r h) fun res s' hq => ?_)
  cases res with
  | error e => exact False.elim hq
  | ok fl =>
    cases fl with
    | ret u => exact I.after hq
    | next => exact False.elim hq
    | brk => exact False.elim hq
    | cont => exact False.elim hq
theorem pe_fn {sp : Sp} {t : TA} {x : Str} {p pos : Pos} {e : Expr} {es : List Expr} {f : Addr} {fd : FuncData} {ps : List Str} (F : FnG X.prog X.w X.K X.mg X.base k f fd ps sp) (hr : RoomG k X.A) (hg : Gl X x) (hm : X.mg x = some (.ref f)) (hk : PySem.W.keepIn X.K (.ref f) = true) (hb : Binds X.K fd ps [])
    (ha : PA X (e :: es) t) (hdb : (x == ("__debug__" : Str)) = false) (he : starEach (e :: es) X.env = (false, eval e X.env) :: starEach es X.env) (hst : ∀ y ∈ starEach es X.env, y.1 = false) :
    PE X (.Call (.Name x p) (e :: es) [] pos) (fun σ H Q => t σ H fun vs H1 => sp vs H1 Q E0) := by
  refine ⟨fun pins s σ H Q I h => ?_⟩
  refine wpAny_Call_Name_kw (ld_glob I hg hm ?_ hdb)
  refine PySem.W.callWith_K (h₀ := X.base) I.ok.mod.kin hk (thn (ha.run pos pins s σ H _ I h) fun us s1 ⟨vs, H1, I1, r, q⟩ => ⟨I1.kIn, ?_⟩) he (any_back hst)
  exact call_fn F hr hb I1 r q
theorem pe_fn0 {sp : Sp} {x : Str} {p pos : Pos} {f : Addr} {fd : FuncData} {ps : List Str} (F : FnG X.prog X.w X.K X.mg X.base k f fd ps sp) (hr : RoomG k X.A) (hg : Gl X x) (hm : X.mg x = some (.ref f)) (hk : PySem.W.keepIn X.K (.ref f) = true) (hb : Binds X.K fd ps [])
    (hdb : (x == ("__debug__" : Str)) = false) : PE X (.Call (.Name x p) [] [] pos) (fun σ H Q => sp [] H Q E0) := by
  refine ⟨fun pins s σ H Q I h => ?_⟩
  refine wpAny_Call_Name_kw (ld_glob I hg hm ?_ hdb)
  exact PySem.W.callWith_K0 I.kIn hk (call_fn F hr hb I .nil h)

/-- what the arguments of a call are, by shape -/
structure ArgOk (X : Cx) (Φ : Fs) (es : List Expr) (ms : MAs) : Prop where
  pa : PA X es (tAs X.w Φ ms)
  plain : ∀ env, ∀ y ∈ starEach es env, y.1 = false
  first : ∀ e r, es = e :: r → ∀ env, starEach (e :: r) env = (false, eval e env) :: starEach r env
  emp : es = [] → ms = .nil
theorem s_call (C : XC X Φ gk k) {x : Str} {es : List Expr} {ms : MAs} (f : Nat) {F : FE} {p pos : Pos} (hg : X.env.scope.names.lookup x = some .globalImplicit) (hf : Φ.l[f]? = some F) (hx : F.name = x) (hd : (x == ("__debug__" : Str)) = false) (ha : ArgOk X Φ es ms) : Snd X Φ (.Call (.Name x p) es [] pos) (.call f ms) := by
  obtain ⟨a, fd, ps, h1, h2, h3, h4, h5⟩ := C.fns F (List.mem_of_getElem? hf)
  rw [hx] at h1
  have core : ∀ σ H Q, tE X.w Φ (.call f ms) σ H Q → tAs X.w Φ ms σ H fun vs H1 => spF X.w Φ.T F vs H1 Q E0 := fun σ H Q ⟨g, G, ρ, s, d, s', E, ee, q⟩ => by
    rw [ev] at ee
    obtain ⟨⟨xs, s1⟩, e1, e2⟩ := bind_some ee
    simp only [hf] at e2
    split at e2
    · rename_i hz
      refine ⟨g, G, ρ, s, xs, s1, E, e1, fun vs H1 k1 r1 d1 => ⟨_, g, _, xs, s1, d, s', .inr rfl, Up.gok E.src E.gok, r1, d1, hz, e2, fun v H' pp nn => q v H' (Ps.comp E k1 r1 pp) fun z => NewL.fin k1 r1 (nn ?_)⟩⟩
      have z' : newE Φ.l (.call f ms) = F.fresh := by
        rw [newE, hf]
      rw [← z']
      exact z
    · cases e2
  refine mkS ?_ fun _ => rfl
  cases es with
  | nil =>
    refine pe_weak (pe_fn0 h5 C.rk hg h1 h2 h3 hd) fun σ H Q h => ?_
    obtain rfl := ha.emp rfl
    obtain ⟨g, G, ρ, s, d, s', E, ee, q⟩ := h
    rw [ev] at ee
    obtain ⟨⟨xs, s1⟩, e1, e2⟩ := bind_some ee
    cases e1
    simp only [hf] at e2
    split at e2
    · rename_i hz
      refine ⟨_, g, G, [], s, d, s', .inr rfl, E.gok, E.src, .nil, hz, e2, fun v H' pp nn => q v H' pp fun z => nn ?_⟩
      have z' : newE Φ.l (.call f .nil) = F.fresh := by
        rw [newE, hf]
      rw [← z']
      exact z
    · cases e2
  | cons e r => exact pe_weak (pe_fn h5 C.rk hg h1 h2 h3 ha.pa hd (ha.first e r rfl _) fun y hy => ha.plain X.env y (by rw [ha.first e r rfl]; exact List.mem_cons_of_mem _ hy)) core
end
end Os
end
section
set_option linter.all false
set_option maxRecDepth 100000
set_option maxHeartbeats 4000000
/-! OsI: built-ins called; what is walked. -/
namespace Os
open PySem PySem.Spec PyProof.Rows L2

section
variable {X : Cx} {Φ : Fs} {gk : List (Str × D)} {k : Nat}
theorem s_b1 (C : XC X Φ gk k) (f : B1) {a : Expr} {q : ME} {p pos : Pos} (hg : X.env.scope.names.lookup (b1N f) = some .globalImplicit) (ha : Snd X Φ a q) (hn : ∀ (es : List Expr) (env : Env), starEach (a :: es) env = (false, eval a env) :: starEach es env) : Snd X Φ (.Call (.Name (b1N f) p) [a] [] pos) (.b1 f q) := by
  have hm := C.bl _ (b1_mem f)
  have h1 : PE X (.Call (.Name (b1N f) p) [a] [] pos) (tCB (rB1N X.w f) (tCons (tE X.w Φ q) tNil)) := by
    cases f <;> first
      | exact pe_callB (call_b1 C.xr _) hg hm rfl (pa_cons ha.pe pa_nil (hn _ _)) (by decide) (by decide) (hn _ _) rfl
      | exact pe_callTy (call_b1 C.xr _) hg hm rfl (pa_cons ha.pe pa_nil (hn _ _)) (by decide) (by decide) (hn _ _) rfl
  refine mkS (pe_weak h1 fun σ H Q ⟨g, G, ρ, s, d, s', E, ee, h⟩ => ?_) fun _ => rfl
  rw [ev] at ee
  obtain ⟨⟨x, s1⟩, e1, e2⟩ := bind_some ee
  obtain ⟨z, e3, e4⟩ := map_some e2
  cases e4
  refine one E e1 fun v H1 k1 r1 d1 => ⟨v, rfl, _, x, _, d1, e3, fun u H2 sm dd nn => h u H2 (Ps.fin k1 r1 sm dd) fun z => NewL.fin k1 r1 (nn ?_)⟩
  cases f <;> first | exact .inl rfl | exact .inr (.inl rfl) | exact .inr (.inr rfl) | cases z
theorem s_b2 (C : XC X Φ gk k) (f : B2) {a b : Expr} {q r : ME} {p pos : Pos} (hg : X.env.scope.names.lookup (b2N f) = some .globalImplicit) (ha : Snd X Φ a q) (hb : Snd X Φ b r) (hn : ∀ (es : List Expr) (env : Env), starEach (a :: es) env = (false, eval a env) :: starEach es env)
    (hn' : ∀ (es : List Expr) (env : Env), starEach (b :: es) env = (false, eval b env) :: starEach es env) : Snd X Φ (.Call (.Name (b2N f) p) [a, b] [] pos) (.b2 f q r) := by
  have hm := C.bl _ (b2_mem f)
  have hpl : (backTo pos (starEach [b] X.env)).any (·.1) = false := any_back fun y hy => by
    rw [hn' [] X.env] at hy
    rcases List.mem_cons.mp hy with e | e
    · rw [e]
    · cases e
  have h1 : PE X (.Call (.Name (b2N f) p) [a, b] [] pos) (tCB (rB2 X.w f) (tCons (tE X.w Φ q) (tCons (tE X.w Φ r) tNil))) := by
    cases f <;> exact pe_callB (call_b2 C.xr _) hg hm rfl (pa_cons ha.pe (pa_cons hb.pe pa_nil (hn' _ _)) (hn _ _)) (by decide) (by decide) (hn _ _) hpl
  refine mkS (pe_weak h1 fun σ H Q ⟨g, G, ρ, s, d, s', E, ee, h⟩ => ?_) fun _ => rfl
  rw [ev] at ee
  obtain ⟨⟨x, s1⟩, e1, e2⟩ := bind_some ee
  obtain ⟨⟨y, s2⟩, e3, e4⟩ := bind_some e2
  obtain ⟨z, e5, e6⟩ := map_some e4
  cases e6
  exact two E e1 e3 fun v u H2 k2 r2 d1 d2 => ⟨v, u, rfl, _, x, y, _, d1, d2, e5, fun v H' sm dd => h v H' (Ps.fin k2 r2 sm dd) fun z => nomatch z⟩
theorem s_isi (C : XC X Φ gk k) (t : TY) {a : Expr} {q : ME} {p p2 pos : Pos} (hg : X.env.scope.names.lookup ("isinstance" : Str) = some .globalImplicit) (ht : X.env.scope.names.lookup (tyN t) = some .globalImplicit) (ha : Snd X Φ a q)
    (hn : ∀ (es : List Expr) (env : Env), starEach (a :: es) env = (false, eval a env) :: starEach es env) : Snd X Φ (.Call (.Name "isinstance" p) [a, .Name (tyN t) p2] [] pos) (.isi q t) := by
  have hm := C.bl "isinstance" (by decide +kernel)
  have h0 : PE X (.Name (tyN t) p2) (tC (.ty (tyS t))) := pe_bltn ht (C.bl _ (ty_mem t)) (ty_boot t) rfl (ty_nn t) (ty_nd t)
  have h1 : PE X (.Call (.Name "isinstance" p) [a, .Name (tyN t) p2] [] pos) (tCB (fun xs H Q => ∃ x G d, xs = [x, .ty (tyS t)] ∧ Dat X.w G H x d ∧ Q (.bl (isTy t d)) H) (tCons (tE X.w Φ q) (tCons (tC (.ty (tyS t))) tNil))) :=
    pe_callB (call_isiO t) hg hm rfl (pa_cons ha.pe (pa_cons h0 pa_nil) (hn _ _)) (by decide) (by decide) (hn _ _) rfl
  refine mkS (pe_weak h1 fun σ H Q ⟨g, G, ρ, s, d, s', E, ee, h⟩ => ?_) fun _ => rfl
  rw [ev] at ee
  obtain ⟨⟨x, s1⟩, e1, e2⟩ := bind_some ee
  cases e2
  exact one E e1 fun v H1 k1 r1 d1 => ⟨v, _, x, rfl, d1, h _ _ ⟨k1, r1, .bool _⟩ fun z => nomatch z⟩
/-- a new empty dict -/
theorem insU_mem (k j : Int) : ∀ xs : List Int, j ∈ insU k xs ↔ j = k ∨ j ∈ xs
  | [] => by simp [insU]
  | x :: xs => by
    unfold insU
    split
    · simp
    · split
      · rename_i e
        subst e
        simp
      · rw [List.mem_cons, insU_mem k j xs, List.mem_cons]
        exact or_left_comm
theorem insU_lt (k : Int) : ∀ {xs : List Int}, xs.Pairwise (· < ·) → (insU k xs).Pairwise (· < ·)
  | [], _ => by simp [insU]
  | x :: xs, h => by
    obtain ⟨h1, h2⟩ := List.pairwise_cons.mp h
    unfold insU
    split
    · rename_i c
      refine List.pairwise_cons.mpr ⟨fun j hj => ?_, h⟩
      rcases List.mem_cons.mp hj with e | e
      · omega
      · have := h1 j e
        omega
    · split
      · exact h
      · refine List.pairwise_cons.mpr ⟨fun j hj => ?_, insU_lt k h2⟩
        rcases (insU_mem k j xs).mp hj with e | e
        · omega
        · exact h1 j e
theorem sset_mem (j : Int) : ∀ ns : List Int, j ∈ ssetI ns ↔ j ∈ ns
  | [] => Iff.rfl
  | k :: ns => by
    have e : ssetI (k :: ns) = insU k (ssetI ns) := rfl
    rw [e, insU_mem, sset_mem j ns, List.mem_cons]
theorem sset_lt : ∀ ns : List Int, (ssetI ns).Pairwise (· < ·)
  | [] => .nil
  | k :: ns => insU_lt k (sset_lt ns)
theorem lt_unique : ∀ {a b : List Int}, a.Pairwise (· < ·) → b.Pairwise (· < ·) → (∀ k, k ∈ a ↔ k ∈ b) → a = b
  | [], [], _, _, _ => rfl
  | [], y :: b, _, _, h => absurd ((h y).mpr List.mem_cons_self) List.not_mem_nil
  | x :: a, [], _, _, h => absurd ((h x).mp List.mem_cons_self) List.not_mem_nil
  | x :: a, y :: b, h1, h2, h => by
    obtain ⟨a1, a2⟩ := List.pairwise_cons.mp h1
    obtain ⟨b1, b2⟩ := List.pairwise_cons.mp h2
    have e : x = y := by
      have c1 := (h x).mp List.mem_cons_self
      have c2 := (h y).mpr List.mem_cons_self
      rcases List.mem_cons.mp c1 with z | z
      · exact z
      · rcases List.mem_cons.mp c2 with z2 | z2
        · exact z2.symm
        · have := b1 x z
          have := a1 y z2
          omega
    subst e
    rw [lt_unique a2 b2 fun k => ?_]
    constructor
    · intro hk
      rcases List.mem_cons.mp ((h k).mp (List.mem_cons_of_mem _ hk)) with z | z
      · have := a1 k hk
        omega
      · exact z
    · intro hk
      rcases List.mem_cons.mp ((h k).mpr (List.mem_cons_of_mem _ hk)) with z | z
      · have := b1 k hk
        omega
      · exact z
theorem dats_ints {w : World} {G : Addr → Prop} {H : Hp} : ∀ ns : List Int, Dats w G H (ns.map V.int) (ns.map PyData.int)
  | [] => .nil
  | n :: ns => .cons (.int n) (dats_ints ns)
theorem s_sset (C : XC X Φ gk k) {a : Expr} {q : ME} {p p2 pos pos2 : Pos} (hg : X.env.scope.names.lookup ("sorted" : Str) = some .globalImplicit) (hg2 : X.env.scope.names.lookup ("set" : Str) = some .globalImplicit) (ha : Snd X Φ a q) (hn : ∀ (es : List Expr) (env : Env), starEach (a :: es) env = (false, eval a env) :: starEach es env) :
    Snd X Φ (.Call (.Name "sorted" p) [.Call (.Name "set" p2) [a] [] pos2] [] pos) (.sset q) := by
  have hm := C.bl "sorted" (by decide +kernel)
  have hm2 := C.bl "set" (by decide +kernel)
  have h2 : PE X (.Call (.Name "set" p2) [a] [] pos2) (tCB (rSetI X.K X.w) (tCons (tE X.w Φ q) tNil)) := pe_callTy (cr_setI C.calm) hg2 hm2 rfl (pa_cons ha.pe pa_nil (hn _ _)) (by decide) (by decide) (hn _ _) rfl
  have h1 := pe_callB (p := p) (pos := pos) (cr_sortedSet C.calm) hg hm rfl (pa_cons h2 pa_nil rfl) (by decide) (by decide) rfl rfl
  refine mkS (pe_weak h1 fun σ H Q ⟨g, G, ρ, s, d, s', E, ee, h⟩ => ?_) fun _ => rfl
  rw [ev] at ee
  obtain ⟨⟨x, s1⟩, e1, e2⟩ := bind_some ee
  dsimp only at e2
  split at e2
  · rename_i xs
    obtain ⟨ns, e3, e4⟩ := bind_some e2
    split at e4
    · rename_i h64
      cases e4
      refine one E e1 fun v H1 k1 r1 d1 => ?_
      obtain ⟨b, vs, rfl, _, eb, rb⟩ := d1.listE
      have ev2 := ints_of rb e3
      subst ev2
      refine ⟨b, ns, rfl, SqL.of eb, h64, fun z c hc hz => ⟨z, _, c, rfl, upd_same, Nat.lt_of_le_of_lt hc h64, fun ms y hy1 hy2 _ hy3 => ?_⟩⟩
      have em : ms = ssetI ns := lt_unique hy1 (sset_lt ns) fun j => by rw [hy2, sset_mem]; simp
      subst em
      have hy : H1 y = none := by
        cases q : H1 y with
        | none => rfl
        | some o =>
          have := same_new (o := SetO X.w z (fun j => decide (j ∈ ns)) c) hz y o q
          rw [hy3] at this
          cases this
      have sm : Same H1 (upd (upd H1 z (SetO X.w z (fun j => decide (j ∈ ns)) c)) y (.lst ((ssetI ns).map V.int))) := fun b o e => same_new hy3 _ _ (same_new hz _ _ e)
      exact h (.ref y) _ (Ps.fin k1 r1 sm (.list (.inr hy) upd_same (dats_ints _))) fun _ => NewL.fin k1 r1 ⟨y, rfl, hy, .inl ⟨_, _, rfl, upd_same, dats_ints _⟩⟩
    · cases e4
  · cases e2
theorem s_dict0 (C : XC X Φ gk k) {pos : Pos} : Snd X Φ (.Dict [] [] pos) .dict0 := by
  refine mkS ⟨fun pins s σ H Q I ⟨g, G, ρ, s0, d, s', E, ee, h⟩ => ?_⟩ fun _ => rfl
  cases ee
  refine wpAny_Dict_empty ?_
  have hf : H s.heap.objs.size = none := I.hok.fresh (Nat.le_refl _)
  have kp : ∀ b o, s.heap.get? b = some o → (s.heap.push { cls := .type "dict", data := .dict #[] }).get? b = some o := fun b o e => Heap.get?_push_of_some _ e
  have new : ObjOk X.prog X.w (upd H s.heap.objs.size (dO X.w s.heap.objs.size [])) (s.heap.push { cls := .type "dict", data := .dict #[] }) s.heap.objs.size (dO X.w s.heap.objs.size []) :=
    dO_of (xs := []) (DE.new s.heap) ⟨rfl, .nil, .nil⟩ (beq_eq_false_iff_ne.mpr (Ne.symm (Nat.ne_of_lt I.big))) (Nat.zero_le _)
  have n := sys_new X.w (G := G) (es := []) (kvs := []) hf ⟨.nil, .nil, rfl⟩
  exact ⟨.ref s.heap.objs.size, _, I.laid (t' := s.toks) kp (Nat.le_refl _) new, rfl, h _ _ (Ps.fin Keep.refl E.src (same_new hf) (n.1.mono fun b z => z.imp .inl id)) fun _ => n.2⟩
/-- a.upper() -/
theorem s_up (C : XC X Φ gk k) {a : Expr} {p : ME} {apos pos : Pos} (ha : Snd X Φ a p) (hb : ∀ env, attributeBase a "upper" env (eval a env) = eval a env) (hl : (apos.endLine == pos.line) = true) : Snd X Φ (.Call (.Attribute a "upper" apos) [] [] pos) (.up p) := by
  refine mkS (pe_weak (pe_upper ha.pe (hb X.env) hl) fun σ H Q ⟨g, G, ρ, s, d, s', E, ee, h⟩ => ?_) fun _ => rfl
  rw [ev] at ee
  obtain ⟨⟨x, s1⟩, e1, e2⟩ := bind_some ee
  dsimp only at e2
  split at e2
  · rename_i z
    split at e2
    · rename_i hz
      cases e2
      refine one E e1 fun v H1 k1 r1 d1 => ?_
      obtain rfl := d1.strE
      exact ⟨⟨z, rfl⟩, z, rfl, rfl, hz, h (.str _) _ (Ps.fin k1 r1 (Same.refl _) (.str _)) fun z => nomatch z⟩
    · cases e2
  · cases e2
/-- o.f(a) -/
theorem s_m1 (C : XC X Φ gk k) (f : M1) {o a : Expr} {q r : ME} {apos cpos : Pos} (ho : Snd X Φ o q) (ha : Snd X Φ a r) (hn : ∀ (es : List Expr) (env : Env), starEach (a :: es) env = (false, eval a env) :: starEach es env)
    (hbase : ∀ env, attributeBase o (m1N f) env (eval o env) = eval o env) (hline : (apos.endLine == cpos.line) = true) : Snd X Φ (.Call (.Attribute o (m1N f) apos) [a] [] cpos) (.m1 f q r) := by
  refine mkS ⟨fun pins s σ H Q I ⟨g, G, ρ, s0, d, s', E, ee, h⟩ => ?_⟩ fun _ => rfl
  rw [ev] at ee
  obtain ⟨⟨x, s1⟩, e1, e2⟩ := bind_some ee
  obtain ⟨⟨y, s2⟩, e3, e4⟩ := bind_some e2
  obtain ⟨z, e5, e6⟩ := map_some e4
  cases e6
  have hfew : ((backTo cpos (starEach [a] X.env)).all (fun x => !x.1) && (backToKw cpos (keywordEach [] X.env)).all (fun x => x.1.isSome) && decide ([a].length + ([] : List Keyword).length + (if ([] : List Keyword).isEmpty then 0 else 1) < 30)) = true := by
    rw [hn [] X.env]
    rfl
  have hA : PA X [a] (tCons (tE X.w Φ r) tNil) := pa_cons ha.pe pa_nil (hn _ _)
  obtain ⟨T, id, hid⟩ := m1_id e5
  have hw' : tE X.w Φ q σ H fun x' H1 => Dat X.w (Up G H) H1 x' x ∧ tE X.w Φ r σ H1 fun y' H2 => Dat X.w (Up G H) H2 x' x ∧ Dat X.w (Up G H) H2 y' y ∧ Keep g H H2 ∧ SrcR g H2 s' :=
    one E e1 fun v H1 k1 r1 d1 => ⟨d1, one (E.step k1 r1) e3 fun u H2 k2 r2 d2 => ⟨d1.keep k2 r1 (Up.gok E.src E.gok), d2.mono fun b h => Up.up k1 r1 b h, k1.trans k2, r2⟩⟩
  refine wpAny_Call_method_late (hbase X.env) hfew hline rfl (thn (ho.pe.run pins s σ H _ I hw') fun v st1 ⟨x', H1, I1, rx, d0, q1⟩ => ?_)
  obtain ⟨m1, m2, m3, m4, m5⟩ := m_recv I1 d0 rx hid
  refine ⟨T, id, m1, m2, m3, m4, m5, ?_⟩
  have hB := hA.run cpos pins st1 σ H1 (fun us H2 => ∃ y', us = [y'] ∧ Dat X.w (Up G H) H2 x' x ∧ Dat X.w (Up G H) H2 y' y ∧ Keep g H H2 ∧ SrcR g H2 s') I1 (by
    obtain ⟨g', G', ρ', t0, d', t', E', e', hq⟩ := q1
    exact ⟨g', G', ρ', t0, d', t', E', e', fun v H' pp nn => ⟨v, rfl, hq v H' pp nn⟩⟩)
  rw [hn [] X.env] at hB ⊢
  refine Calls.callWith_builtin rfl (Calls.evalArgs_plain (thn hB fun us st2 ⟨ws, H2, I2, r2, y', ey, d1, d2, kk, rr⟩ => ?_))
  subst ey
  obtain ⟨u, rfl, ru⟩ := vals1 r2
  exact m1_call C.xr I2 d1 rx d2 ru e5 hid fun v H' sm dd => h v H' (Ps.fin kk rr sm dd) fun z => nomatch z
/-- o.f(a, b) -/
theorem s_m2 (C : XC X Φ gk k) (f : M2) {o a b : Expr} {q r t : ME} {apos cpos : Pos} (ho : Snd X Φ o q) (ha : Snd X Φ a r) (hb : Snd X Φ b t) (hn : ∀ (es : List Expr) (env : Env), starEach (a :: es) env = (false, eval a env) :: starEach es env)
    (hn2 : ∀ (es : List Expr) (env : Env), starEach (b :: es) env = (false, eval b env) :: starEach es env)
    (hbase : ∀ env, attributeBase o (m2N f) env (eval o env) = eval o env) (hline : (apos.endLine == cpos.line) = true) : Snd X Φ (.Call (.Attribute o (m2N f) apos) [a, b] [] cpos) (.m2 f q r t) := by
  refine mkS ⟨fun pins s σ H Q I ⟨g, G, ρ, s0, d, s', E, ee, h⟩ => ?_⟩ fun _ => rfl
  rw [ev] at ee
  obtain ⟨⟨x, s1⟩, e1, e2⟩ := bind_some ee
  obtain ⟨⟨y, s2⟩, e3, e4⟩ := bind_some e2
  obtain ⟨⟨y2, s3⟩, e7, e8⟩ := bind_some e4
  obtain ⟨z, e5, e6⟩ := map_some e8
  cases e6
  have hfew : ((backTo cpos (starEach [a, b] X.env)).all (fun x => !x.1) && (backToKw cpos (keywordEach [] X.env)).all (fun x => x.1.isSome) && decide ([a, b].length + ([] : List Keyword).length + (if ([] : List Keyword).isEmpty then 0 else 1) < 30)) = true := by
    rw [hn [b] X.env, hn2 [] X.env]
    rfl
  have hA : PA X [a, b] (tCons (tE X.w Φ r) (tCons (tE X.w Φ t) tNil)) := pa_cons ha.pe (pa_cons hb.pe pa_nil (hn2 _ _)) (hn _ _)
  obtain ⟨T, id, hid⟩ := m2_id e5
  have hw' : tE X.w Φ q σ H fun x' H1 => Dat X.w (Up G H) H1 x' x ∧ tE X.w Φ r σ H1 fun y' H2 => tE X.w Φ t σ H2 fun z' H3 => Dat X.w (Up G H) H3 x' x ∧ Dat X.w (Up G H) H3 y' y ∧ Dat X.w (Up G H) H3 z' y2 ∧ Keep g H H3 ∧ SrcR g H3 s' :=
    one E e1 fun v H1 k1 r1 d1 => ⟨d1, one (E.step k1 r1) e3 fun u H2 k2 r2 d2 => one ((E.step k1 r1).step k2 r2) e7 fun u2 H3 k3 r3 d3 =>
      ⟨(d1.keep k2 r1 (Up.gok E.src E.gok)).keep k3 r2 (Up.gok E.src E.gok), (d2.mono fun b h => Up.up k1 r1 b h).keep k3 r2 (Up.gok E.src E.gok), d3.mono fun b h => Up.up k1 r1 b (Up.up k2 r2 b h), (k1.trans k2).trans k3, r3⟩⟩
  refine wpAny_Call_method_late (hbase X.env) hfew hline rfl (thn (ho.pe.run pins s σ H _ I hw') fun v st1 ⟨x', H1, I1, rx, d0, q1⟩ => ?_)
  obtain ⟨m1, m2, m3, m4, m5⟩ := m_recv I1 d0 rx hid
  refine ⟨T, id, m1, m2, m3, m4, m5, ?_⟩
  have hB := hA.run cpos pins st1 σ H1 (fun us H2 => ∃ y' z', us = [y', z'] ∧ Dat X.w (Up G H) H2 x' x ∧ Dat X.w (Up G H) H2 y' y ∧ Dat X.w (Up G H) H2 z' y2 ∧ Keep g H H2 ∧ SrcR g H2 s') I1 (by
    obtain ⟨g', G', ρ', t0, d', t', E', e', hq⟩ := q1
    refine ⟨g', G', ρ', t0, d', t', E', e', fun v H' pp nn => ?_⟩
    obtain ⟨g2, G2, ρ2, t2, d2, t2', E2, e2, hq2⟩ := hq v H' pp nn
    exact ⟨g2, G2, ρ2, t2, d2, t2', E2, e2, fun v2 H2 pp2 nn2 => ⟨v, v2, rfl, hq2 v2 H2 pp2 nn2⟩⟩)
  have hst : (backTo cpos (starEach [a, b] X.env)).any (·.1) = false := any_back fun y hy => by
    rw [hn [b] X.env, hn2 [] X.env] at hy
    rcases List.mem_cons.mp hy with e | e
    · rw [e]
    · rcases List.mem_cons.mp e with e | e
      · rw [e]
      · cases e
  rw [hn [b] X.env, hn2 [] X.env] at hB hst ⊢
  refine Calls.callWith_builtin hst (Calls.evalArgs_plain (thn hB fun us st2 ⟨ws, H2, I2, r2, y', z', ey, d1, d2, d3, kk, rr⟩ => ?_))
  subst ey
  obtain ⟨u, u2, rfl, ru, ru2⟩ := vals2 r2
  exact m2_call C.xr I2 d1 rx d2 ru d3 ru2 e5 hid fun v H' sm dd => h v H' (Ps.fin kk rr sm dd) fun z => nomatch z
end
end Os
end
section
set_option linter.all false
set_option maxRecDepth 100000
set_option maxHeartbeats 4000000
/-! OsJ: what is walked: lists, tuples, ranges, enumerate, zip. -/
namespace Os
open PySem PySem.Spec PyProof.Rows L2

/-- enumerate over a tuple -/
def IteT (K : PySem.W.Frag) (a : Addr) : It :=
  ⟨fun i H => ∃ (xs : List V) (x : V), SqT K H a xs ∧ xs[i]? = some x, fun i H v H' => ∃ T x, v = .ref T ∧ H T = none ∧ H' = upd H T (.tup [.int (i : Nat), x]) ∧ ∀ xs, SqT K H a xs → xs[i]? = some x, fun i H => ∃ xs : List V, SqT K H a xs ∧ xs.length ≤ i⟩
theorem enum_ne {h : Heap} {e it a : Addr} {i : Int} {old : Value} {its : Array Value} (he : IsEnum h e it i old) (p : h.IsTuple a its) : e ≠ a := by
  intro z
  subst z
  obtain ⟨o, q1, q2, _⟩ := p
  rw [he] at q1
  cases q1
  simp at q2
theorem tit_ne {h : Heap} {it a : Addr} {i : Nat} {its : Array Value} (he : h.IsTupleIter it a i) (p : h.IsTuple a its) : a ≠ it := by
  intro z
  subst z
  obtain ⟨o, q1, q2, q3⟩ := p
  obtain ⟨o2, q4, q5, q6⟩ := he
  rw [q1] at q4
  cases q4
  rw [q2] at q5
  simp at q5
theorem turn_enumT {P : Program} {w : World} {K : PySem.W.Frag} {elts : List Expr} {kk : Nat} {tpos : Pos} (a e it : Addr) :
    Turn P w K (.Tuple elts kk tpos) (IteT K a) [e, it] e (fun i h => (∃ old, IsEnum h e it ((i : Nat) : Int) old) ∧ h.IsTupleIter it a i ∧ e ≠ it) where
  mem := by simp
  obj := fun i h st b hb => by
    obtain ⟨⟨old, he⟩, ⟨o, ho, hc, hd⟩, _⟩ := st
    have e' : b = e ∨ b = it := by simpa using hb
    rcases e' with z | z
    · rw [z]; exact ⟨_, he, fun v q => nomatch q⟩
    · rw [z]; exact ⟨o, ho, fun v q => by rw [hd] at q; cases q⟩
  keep := fun i h h' st k => let ⟨⟨old, he⟩, hi, hne⟩ := st; ⟨⟨old, k e (by simp) _ he⟩, hi.at fun o q => k it (by simp) o q, hne⟩
  item := by
    intro X hP hw hK hc i pins s σ H E I hf st hg
    subst hP hw hK
    obtain ⟨⟨old, he⟩, hit, hne⟩ := st
    obtain ⟨xs, x, hq, hx⟩ := hg
    obtain ⟨its, rv, p0, hz⟩ := I.tuple hq
    have p : s.heap.IsTuple a its.toArray := p0
    obtain ⟨u, hu, ru⟩ := rv.get hx
    have hel : e < s.heap.objs.size := Heap.lt_size he
    have hil : it < s.heap.objs.size := by obtain ⟨_, q, _⟩ := hit; exact Heap.lt_size q
    have hai := tit_ne hit p
    have hilt : i < its.toArray.size := by
      rcases List.getElem?_eq_some_iff.mp hu with ⟨h1, _⟩
      simpa using h1
    have Dr : Draws X.prog X.w X.A.in1 it [it, a] its.toArray.size (fun i v => its.toArray[i]? = some v) (fun i h => h.IsTupleIter it a i ∧ h.IsTuple a its.toArray) := Draws.tuple (show X.A.in1.handled = none from I.ok.hd hc) it a hai its.toArray
    refine wpAny_pyNext_enum_itemD Dr he ⟨hit, p⟩ hilt hne (by
      intro z
      rcases List.mem_cons.mp z with z | z
      · exact hne z
      · exact enum_ne he p (List.mem_singleton.mp z)) fun u' h' tk hP ho hit' hT hsz hk => ?_
    have eu : u' = u := by
      rw [show its.toArray[i]? = some u by simpa using hu] at hP
      cases hP
      rfl
    subst eu
    refine ⟨_, rfl, wpAny_letOwnedTupleGo_enum (s := { s with heap := h', toks := tk + 1 }) ho fun h'' he' sb => ?_⟩
    have hT2 : h''.get? s.heap.objs.size = some { cls := .type "tuple", data := .seq #[.int i tk, u'] } := (sb.2 _ (Nat.ne_of_gt hel)).trans hT
    have new : ObjOk X.prog X.w (upd H s.heap.objs.size (.tup [.int (i : Nat), x])) h'' s.heap.objs.size (.tup [.int (i : Nat), x]) :=
      ⟨by show 2 ≤ sizeLine; decide, [.int i tk, u'], .cons ⟨_, rfl⟩ (.cons ru .nil), ⟨_, hT2, rfl, _, rfl⟩⟩
    have I1 : Inv X pins σ (upd H s.heap.objs.size (.tup [.int (i : Nat), x])) { s with heap := h'', toks := tk + 1 } :=
      I.turnedNew (ch := [e, it]) (fun b ob hb q => (sb.2 b (fun z => hb (by simp [z]))).trans (hk b ob (fun z => hb (by simp [z])) (fun z => hb (by simp [z])) q)) hf (Nat.le_refl _) new
    refine ⟨.ref s.heap.objs.size, _, I1, rfl, ⟨_, x, rfl, I.hok.fresh (Nat.le_refl _), rfl, fun ys hy => by rw [I.tuple_inj hy hq]; exact hx⟩, ⟨⟨u', ?_⟩, hit'.1.at fun o q => (sb.2 it (Ne.symm hne)).trans q, hne⟩, fun b hb => ?_⟩
    · have e1 : ((i + 1 : Nat) : Int) = (i : Int) + 1 := by omega
      rw [e1]; exact he'
    · have hb' : b < s.heap.objs.size := by
        have e' : b = e ∨ b = it := by simpa using hb
        rcases e' with z | z
        · rw [z]; exact hel
        · rw [z]; exact hil
      rw [upd_ne (Nat.ne_of_lt hb')]
      exact (hf b hb).1
  done := by
    intro X hP hw hK hc i pins s σ H E I hf st hg
    subst hP hw hK
    obtain ⟨⟨old, he⟩, hit, hne⟩ := st
    obtain ⟨xs, hq, hx⟩ := hg
    obtain ⟨its, rv, p0, hz⟩ := I.tuple hq
    have p : s.heap.IsTuple a its.toArray := p0
    obtain ⟨f0, f1, f2, f3, f4, f5⟩ := hf it (by simp)
    have hl := rv.length
    have hai := tit_ne hit p
    have Dr : Draws X.prog X.w X.A.in1 it [it, a] i (fun j v => False) (fun j h => j = i ∧ h.IsTupleIter it a i ∧ h.IsTuple a its.toArray) := {
      live := fun _ _ st => let ⟨o, ho, _⟩ := st.2.1; ⟨o, ho⟩
      frame := fun _ _ _ st hk => ⟨st.1, st.2.1.at fun o e => hk it (by simp) o e, st.2.2.at fun o e => hk a (by simp) o e⟩
      item := fun j s Q E hi st hQ => absurd st.1 (by omega)
      done := fun s Q E st hE => wpAny_nextOf_tuple_end (show X.A.in1.handled = none from I.ok.hd hc) st.2.1 st.2.2 (Array.getElem?_eq_none (by simp; omega)) hE }
    exact wpAny_pyNext_enum_endD Dr he ⟨rfl, hit, p⟩ fun h' eb => ⟨rfl, I.turned (t' := s.toks) (fun b o hb q => eb b o hb q) f0 f1 f3 f4 f5⟩
  self := fun A i s Q E st h => let ⟨⟨_, he⟩, _⟩ := st; wpAny_pyIter_enum he h

set_option maxHeartbeats 8000000 in
theorem meets_enumT (l : Addr) (items : Array Value) :
    Meets (Builtin.«enumerate.__new__» ⟨[.type "enumerate", .ref l], []⟩) (fun _ R s => s.heap.IsTuple l items ∧
      R (.ok (.ret (.ref (s.heap.push { cls := .type "tuple_iterator", data := .fields #[.ref l, .int 0 0] }).objs.size)))
        { s with heap := (s.heap.push { cls := .type "tuple_iterator", data := .fields #[.ref l, .int 0 0] }).push { cls := .type "enumerate", data := .fields #[.none, .bool false, .ref s.heap.objs.size, rawInt 0, .none, .none] } }) :=
  .of_wp fun prog w A R s h => by
    obtain ⟨hp, g, d, tk, os⟩ := s; obtain ⟨hL, h⟩ := h
    have hsub := sub_enumerate
    have q1 : ∀ {A' : Around} {E : Value → Shared → Prop} {Q : Value → Shared → Prop}, Q (.ref hp.objs.size) ⟨hp.push { cls := .type "tuple_iterator", data := .fields #[.ref l, .int 0 0] }, g, d, tk, os⟩ → wpAny (model prog w) A' (pyIter (.ref l)) Q E ⟨hp, g, d, tk, os⟩ :=
      fun q => (begins_tuple l items).iter prog w _ _ ⟨hp, g, d, tk, os⟩ _ hL q
    wp_walk using q1
    refine wpAny_stack_any fun st => wpAny_pure ?_
    split
    · rename_i c _ _ _ _ _
      cases (c == Value.type "enumerate")
      · wp_walk using q1
        exact ⟨_, rfl, h⟩
      · wp_walk using q1
        exact ⟨_, rfl, h⟩
    · wp_walk using q1
      exact ⟨_, rfl, h⟩
theorem call_enumT {prog : Program} {w : World} {A : Around} {E : Value → Shared → Prop} {s : Shared} {l : Addr} {items : Array Value} {Q : Value → Shared → Prop} (hL : s.heap.IsTuple l items)
    (h : ∀ h', IsEnum h' (s.heap.objs.size + 1) s.heap.objs.size 0 .none → h'.IsTupleIter s.heap.objs.size l 0 → h'.objs.size = s.heap.objs.size + 2 →
      (∀ b o, s.heap.get? b = some o → h'.get? b = some o) → Q (.ref (s.heap.objs.size + 1)) { s with heap := h' }) :
    wpAny (model prog w) A (call (.type "enumerate") [.ref l]) Q E s := by
  refine callType_new F.called_enumerate (by decide) (F.typeCall_enumerate_1 _) (F.newCall_enumerate_1 _) (fun obj => F.args_object_init_2 obj _) F.entry_enumerate_new
    (meets_enumT l items) ⟨hL, ?_⟩
  have hz : (s.heap.push { cls := .type "tuple_iterator", data := .fields #[.ref l, .int 0 0] }).objs.size = s.heap.objs.size + 1 := Heap.size_push ..
  show _ ∧ _
  rw [hz]
  have he : IsEnum ((s.heap.push { cls := .type "tuple_iterator", data := .fields #[.ref l, .int 0 0] }).push
      { cls := .type "enumerate", data := .fields #[.none, .bool false, .ref s.heap.objs.size, rawInt 0, .none, .none] }) (s.heap.objs.size + 1) s.heap.objs.size 0 .none := by
    have := Heap.get?_push_size (s.heap.push { cls := .type "tuple_iterator", data := .fields #[.ref l, .int 0 0] })
      (o := { cls := .type "enumerate", data := .fields #[.none, .bool false, .ref s.heap.objs.size, rawInt 0, .none, .none] }) rfl
    rw [hz] at this; exact this
  refine ⟨⟨_, he, rfl⟩, h _ he ⟨_, Heap.get?_push_of_some _ (Heap.get?_push_size _ rfl), rfl, rfl⟩ (by rw [Heap.size_push, hz]) fun b o x => Heap.get?_push_of_some _ (Heap.get?_push_of_some _ x)⟩
def iEnumT (K : PySem.W.Frag) (ta : TA) : TI := fun σ H R => ta σ H fun vs H1 => ∃ a xs, vs = [.ref a] ∧ SqT K H1 a xs ∧ R (IteT K a) H1
theorem pi_enumT {X : Cx} {e : Expr} {ta : TA} {p pos tpos : Pos} {elts : List Expr} {kk : Nat} (hg : Gl X "enumerate") (hm : X.mg "enumerate" = none) (ha : PA X [e] ta) (hs : starEach [e] X.env = [(false, eval e X.env)] := by rfl) :
    PI X (.Tuple elts kk tpos) (.Call (.Name "enumerate" p) [e] [] pos) (iEnumT X.K ta) := by
  refine ⟨fun pins s σ H R I h => ?_⟩
  refine Call_ (ld_blt I hg hm boot_enumerate (PyProof.Rows.callWith_type1 (thn (ha.run pos pins s σ H _ I h) fun us s1 ⟨vs, H1, I1, r1, q1⟩ => ?_) hs rfl))
  obtain ⟨a, xs, ex, hq, q⟩ := q1
  subst ex
  cases r1 with
  | cons r rr =>
    cases rr
    cases r
    obtain ⟨its, rv, p', hz⟩ := I1.tuple hq
    refine call_enumT (show s1.heap.IsTuple a its.toArray from p') fun h' he hit hsz hk => wpAny_pyIter_enum he ?_
    have I2 : Inv X pins σ H1 { s1 with heap := h' } := I1.kept (t' := s1.toks) hk
    refine ⟨s1.heap.objs.size + 1, [s1.heap.objs.size + 1, s1.heap.objs.size], _, _, H1, rfl, I2, turn_enumT a (s1.heap.objs.size + 1) s1.heap.objs.size, ⟨⟨.none, he⟩, hit, Nat.succ_ne_self _⟩, fun b hb => ?_, q⟩
    have e' : b = s1.heap.objs.size + 1 ∨ b = s1.heap.objs.size := by simpa using hb
    have hle : s1.heap.objs.size ≤ b := by
      rcases e' with z | z
      · rw [z]; exact Nat.le_add_right _ _
      · rw [z]; exact Nat.le_refl _
    exact I1.fpOk hle (I1.hok.fresh hle)
theorem walk_enumT {K : PySem.W.Frag} {a : Addr} {xs : List V} : Walk (IteT K a) xs.length (fun H => SqT K H a xs) (YPair (fun i => some (.int (i : Nat))) (fun i => xs[i]?)) := by
  refine ⟨fun i _ hi q => ⟨xs, xs[i], q, by simp [hi]⟩, fun _ q => ⟨xs, q, Nat.le_refl _⟩, fun i H v H' _ q y => ?_⟩
  obtain ⟨T, x, h1, h2, h3, h4⟩ := y
  exact ⟨T, .int (i : Nat), x, h1, h2, h3, rfl, h4 xs q⟩
theorem walk_zipT {K : PySem.W.Frag} {a b : Addr} {xs ys : List V} {n : Nat} (hn : n = min xs.length ys.length) : Walk (RZ.ItzT K a b) n (fun H => SqT K H a xs ∧ SqT K H b ys) (YPair (fun i => xs[i]?) (fun i => ys[i]?)) := by
  subst hn
  refine ⟨fun i _ hi q => ?_, fun _ q => ⟨xs, ys, q.1, q.2, by omega⟩, fun i H v H' _ q y => ?_⟩
  · have h1 : i < xs.length := by omega
    have h2 : i < ys.length := by omega
    exact ⟨xs, ys, xs[i], ys[i], q.1, q.2, by simp [h1], by simp [h2]⟩
  · obtain ⟨T, x, z, h1, h2, h3, h4, h5⟩ := y
    exact ⟨T, x, z, h1, h2, h3, h4 xs q.1, h5 ys q.2⟩
/-- enumerate over a text -/
def IteS (x : Str) : It :=
  ⟨fun i _ => i < x.cps.size, fun i H v H' => ∃ T c, v = .ref T ∧ H T = none ∧ H' = upd H T (.tup [.int (i : Nat), .str ⟨#[c]⟩]) ∧ x.cps[i]? = some c, fun i _ => x.cps.size ≤ i⟩
theorem turn_enumS {P : Program} {w : World} {K : PySem.W.Frag} {elts : List Expr} {kk : Nat} {tpos : Pos} (x : Str) (t : Tok) (e it : Addr) :
    Turn P w K (.Tuple elts kk tpos) (IteS x) [e, it] e (fun i h => (∃ old, IsEnum h e it ((i : Nat) : Int) old) ∧ h.IsStrIter it (strIterType x) x t i ∧ e ≠ it) where
  mem := by simp
  obj := fun i h st b hb => by
    obtain ⟨⟨old, he⟩, ⟨o, ho, hc, hd⟩, _⟩ := st
    have e' : b = e ∨ b = it := by simpa using hb
    rcases e' with z | z
    · rw [z]; exact ⟨_, he, fun v q => nomatch q⟩
    · rw [z]; exact ⟨o, ho, fun v q => by rw [hd] at q; cases q⟩
  keep := fun i h h' st k => let ⟨⟨old, he⟩, ⟨o, ho, r⟩, hne⟩ := st; ⟨⟨old, k e (by simp) _ he⟩, ⟨o, k it (by simp) o ho, r⟩, hne⟩
  item := by
    intro X hP hw hK hc i pins s σ H E I hf st hg
    subst hP hw hK
    obtain ⟨⟨old, he⟩, hit, hne⟩ := st
    have hel : e < s.heap.objs.size := Heap.lt_size he
    have hil : it < s.heap.objs.size := by obtain ⟨_, q, _⟩ := hit; exact Heap.lt_size q
    have Dr := Draws.text (prog := X.prog) (w := X.w) (A := X.A.in1) (show X.A.in1.handled = none from I.ok.hd hc) it x t
    refine wpAny_pyNext_enum_itemD Dr he hit hg hne (fun z => hne (List.mem_singleton.mp z)) fun u' h' tk hP ho hit' hT hsz hk => ?_
    obtain ⟨c, u, hx, rfl⟩ := hP
    refine ⟨_, rfl, wpAny_letOwnedTupleGo_enum (s := { s with heap := h', toks := tk + 1 }) ho fun h'' he' sb => ?_⟩
    have hT2 : h''.get? s.heap.objs.size = some { cls := .type "tuple", data := .seq #[.int i tk, .str ⟨#[c]⟩ u] } := (sb.2 _ (Nat.ne_of_gt hel)).trans hT
    have new : ObjOk X.prog X.w (upd H s.heap.objs.size (.tup [.int (i : Nat), .str ⟨#[c]⟩])) h'' s.heap.objs.size (.tup [.int (i : Nat), .str ⟨#[c]⟩]) :=
      ⟨by show 2 ≤ sizeLine; decide, [.int i tk, .str ⟨#[c]⟩ u], .cons ⟨_, rfl⟩ (.cons ⟨_, rfl⟩ .nil), ⟨_, hT2, rfl, _, rfl⟩⟩
    have I1 : Inv X pins σ (upd H s.heap.objs.size (.tup [.int (i : Nat), .str ⟨#[c]⟩])) { s with heap := h'', toks := tk + 1 } :=
      I.turnedNew (ch := [e, it]) (fun b ob hb q => (sb.2 b (fun z => hb (by simp [z]))).trans (hk b ob (fun z => hb (by simp [z])) (fun z => hb (by simp [z])) q)) hf (Nat.le_refl _) new
    refine ⟨.ref s.heap.objs.size, _, I1, rfl, ⟨_, c, rfl, I.hok.fresh (Nat.le_refl _), rfl, hx⟩, ⟨⟨Value.str ⟨#[c]⟩ u, ?_⟩, ?_, hne⟩, fun b hb => ?_⟩
    · have e1 : ((i + 1 : Nat) : Int) = (i : Int) + 1 := by omega
      rw [e1]; exact he'
    · obtain ⟨o, q1, q2⟩ := hit'
      exact ⟨o, (sb.2 it (Ne.symm hne)).trans q1, q2⟩
    · have hb' : b < s.heap.objs.size := by
        have e' : b = e ∨ b = it := by simpa using hb
        rcases e' with z | z
        · rw [z]; exact hel
        · rw [z]; exact hil
      rw [upd_ne (Nat.ne_of_lt hb')]
      exact (hf b hb).1
  done := by
    intro X hP hw hK hc i pins s σ H E I hf st hg
    subst hP hw hK
    obtain ⟨⟨old, he⟩, hit, hne⟩ := st
    obtain ⟨f0, f1, f2, f3, f4, f5⟩ := hf it (by simp)
    have hx : x.cps[i]? = none := Array.getElem?_eq_none hg
    have Dr : Draws X.prog X.w X.A.in1 it [it] i (fun j v => False) (fun j h => j = i ∧ h.IsStrIter it (strIterType x) x t i) := {
      live := fun _ _ st => let ⟨o, ho, _⟩ := st.2; ⟨o, ho⟩
      frame := fun _ _ _ st hk => ⟨st.1, let ⟨o, ho, r⟩ := st.2; ⟨o, hk it (by simp) o ho, r⟩⟩
      item := fun j s Q E hi st hQ => absurd st.1 (by omega)
      done := fun s Q E st hE => by
        obtain ⟨_, st⟩ := st
        have hh : X.A.in1.handled = none := I.ok.hd hc
        unfold strIterType at st
        split at st
        · exact wpAny_nextOf_ascii_end hh st hx hE
        · exact wpAny_nextOf_wide_end hh st hx hE }
    exact wpAny_pyNext_enum_endD Dr he ⟨rfl, hit⟩ fun h' eb => ⟨rfl, I.turned (t' := s.toks) (fun b o hb q => eb b o hb q) f0 f1 f3 f4 f5⟩
  self := fun A i s Q E st h => let ⟨⟨_, he⟩, _⟩ := st; wpAny_pyIter_enum he h
def iEnumS (ta : TA) : TI := fun σ H R => ta σ H fun vs H1 => ∃ x, vs = [.str x] ∧ R (IteS x) H1
theorem pi_enumS {X : Cx} {e : Expr} {ta : TA} {p pos tpos : Pos} {elts : List Expr} {kk : Nat} (hg : Gl X "enumerate") (hm : X.mg "enumerate" = none) (ha : PA X [e] ta) (hs : starEach [e] X.env = [(false, eval e X.env)] := by rfl) :
    PI X (.Tuple elts kk tpos) (.Call (.Name "enumerate" p) [e] [] pos) (iEnumS ta) := by
  refine ⟨fun pins s σ H R I h => ?_⟩
  refine Call_ (ld_blt I hg hm boot_enumerate (PyProof.Rows.callWith_type1 (thn (ha.run pos pins s σ H _ I h) fun us s1 ⟨vs, H1, I1, r1, q1⟩ => ?_) hs rfl))
  obtain ⟨x, ex, q⟩ := q1
  subst ex
  cases r1 with
  | cons r rr =>
    cases rr
    obtain ⟨t, rfl⟩ := r
    refine call_enumerate_str fun h' he hit hsz hk => wpAny_pyIter_enum he ?_
    have I2 : Inv X pins σ H1 { s1 with heap := h' } := I1.kept (t' := s1.toks) hk
    refine ⟨s1.heap.objs.size + 1, [s1.heap.objs.size + 1, s1.heap.objs.size], _, _, H1, rfl, I2, turn_enumS x t (s1.heap.objs.size + 1) s1.heap.objs.size, ⟨⟨.none, he⟩, hit, Nat.succ_ne_self _⟩, fun b hb => ?_, q⟩
    have e' : b = s1.heap.objs.size + 1 ∨ b = s1.heap.objs.size := by simpa using hb
    have hle : s1.heap.objs.size ≤ b := by
      rcases e' with z | z
      · rw [z]; exact Nat.le_add_right _ _
      · rw [z]; exact Nat.le_refl _
    exact I1.fpOk hle (I1.hok.fresh hle)
theorem walk_enumS {x : Str} : Walk (IteS x) x.cps.size (fun _ => True) (YPair (fun i => some (.int (i : Nat))) (fun i => x.cps[i]?.map fun c => .str ⟨#[c]⟩)) := by
  refine ⟨fun i _ hi _ => hi, fun _ _ => Nat.le_refl _, fun i H v H' _ _ y => ?_⟩
  obtain ⟨T, c, h1, h2, h3, h4⟩ := y
  exact ⟨T, .int (i : Nat), .str ⟨#[c]⟩, h1, h2, h3, rfl, by show Option.map _ x.cps[i]? = _; rw [h4]; rfl⟩
end Os
end
section
set_option linter.all false
set_option maxRecDepth 100000
set_option maxHeartbeats 4000000
/-! OsK: what is walked, by data; targets; comprehensions. -/
namespace Os
open PySem PySem.Spec PyProof.Rows L2

/-- what G holds and every tuple stand as they did -/
def KeepG (G : Addr → Prop) (H H' : Hp) : Prop := (∀ b o, G b → H b = some o → H' b = some o) ∧ ∀ b o xs, H b = some (.frz o (.tup xs)) → H' b = some (.frz o (.tup xs))
theorem KeepG.of {g : GS T} {G : Addr → Prop} {H H' : Hp} {s : S1} (hg : ∀ b, G b → ¬ Own2 g b) (r : SrcR g H s) (k : Keep g H H') : KeepG G H H' :=
  ⟨fun b o gb e => k b o e (hg b gb), fun b o xs e => k b _ e (r.tup e)⟩
/-- what is drawn: a value, or a new pair -/
def ItemR (pr : Bool) (w : World) (G : Addr → Prop) (H : Hp) (v : V) (d : D) : Prop := Dat w G H v d ∨ pr = true ∧ ∃ T x y dx dy, v = .ref T ∧ H T = some (.tup [x, y]) ∧ Dat w G H x dx ∧ Dat w G H y dy ∧ d = .tuple [dx, dy]
def ItOk (pr : Bool) (w : World) (G : Addr → Prop) (H0 : Hp) (J : It) (xs : List D) : Prop := Walk J xs.length (fun H => KeepG G H0 H) (fun i H v H' => Same H H' ∧ ∃ d, xs[i]? = some d ∧ ItemR pr w G H' v d)
def tI (pr : Bool) (w : World) (Φ : Fs) (m : MI) : TI := fun σ H R => ∃ (g : GS Φ.T), ∃ G ρ s xs s', ES w g G σ H ρ s ∧ evi Φ.l m ρ s = some (xs, s') ∧ ∀ J H', Keep g H H' → SrcR g H' s' → ItOk pr w (fun b => Up G H b ∧ H' b ≠ none) H' J xs → R J H'

section
variable {w : World} {K : PySem.W.Frag} {G : Addr → Prop} {H0 : Hp} {pr : Bool}
theorem Dats.keepG {H : Hp} {vs : List V} {ds : List D} (r : Dats w G H0 vs ds) (k : KeepG G H0 H) : Dats w G H vs ds := r.go (fun b o g e => ⟨k.1 b o g e, g⟩) k.2
theorem it_list {a : Addr} {vs : List V} {ds : List D} (g : G a) (e : H0 a = some (.lst vs)) (r : Dats w G H0 vs ds) : ItOk pr w G H0 (Itl K a) ds := by
  unfold ItOk
  rw [← r.length]
  refine (walk_list (K := K)).mono (fun H k => SqL.of (k.1 _ _ g e)) fun i H v H' hi k y => ?_
  obtain ⟨rfl, hy⟩ := y
  obtain ⟨d, h1, h2⟩ := (r.keepG k).getV hy
  exact ⟨Same.refl _, d, h1, .inl h2⟩
theorem it_tup {a : Addr} {o : Obj} {vs : List V} {ds : List D} (e : H0 a = some (.frz o (.tup vs))) (r : Dats w G H0 vs ds) : ItOk pr w G H0 (Itt K a) ds := by
  unfold ItOk
  rw [← r.length]
  refine (walk_tup (K := K)).mono (fun H k => SqT.fz (k.2 _ _ _ e)) fun i H v H' hi k y => ?_
  obtain ⟨rfl, hy⟩ := y
  obtain ⟨d, h1, h2⟩ := (r.keepG k).getV hy
  exact ⟨Same.refl _, d, h1, .inl h2⟩
theorem it_range {lo : Int} {n : Nat} : ItOk pr w G H0 (Itr lo n) (rangeD lo n) := by
  have hl : (rangeD lo n).length = n := by simp [rangeD]
  unfold ItOk
  rw [hl]
  refine walk_range.mono (fun H k => trivial) fun i H v H' hi k y => ?_
  obtain ⟨rfl, rfl⟩ := y
  exact ⟨Same.refl _, .int (lo + i), by simp [rangeD, hi], .inl (.int _)⟩
theorem it_str {z : Str} : ItOk pr w G H0 (Its z) (z.cps.toList.map fun c => .str ⟨#[c]⟩) := by
  have hl : (z.cps.toList.map fun c => (PyData.str ⟨#[c]⟩ : D)).length = z.cps.size := by simp
  unfold ItOk
  rw [hl]
  refine walk_str.mono (fun H k => trivial) fun i H v H' hi k y => ?_
  obtain ⟨rfl, c, hc, rfl⟩ := y
  refine ⟨Same.refl _, .str ⟨#[c]⟩, ?_, .inl (.str _)⟩
  rw [List.getElem?_map, Array.getElem?_toList, hc]
  rfl
theorem i_none {X : Cx} {Φ : Fs} {tg e : Expr} {m : MI} (h : ∀ ρ s, evi Φ.l m ρ s = none) : PI X tg e (tI pr X.w Φ m) := by
  refine ⟨fun pins s σ H R I ⟨g, G, ρ, s0, xs, s', E, ee, q⟩ => ?_⟩
  rw [h] at ee
  cases ee
theorem enum_len (xs : List D) : (enumD xs).length = xs.length := by simp [enumD]
theorem enum_get {xs : List D} {i : Nat} {x : D} (h : xs[i]? = some x) : (enumD xs)[i]? = some (.tuple [.int (i : Nat), x]) := by
  have hl : i < xs.length := (List.getElem?_eq_some_iff.mp h).1
  rw [enumD, List.getElem?_zipWith, h, List.getElem?_range hl]
theorem it_enum {a : Addr} {vs : List V} {ds : List D} (g : G a) (e : H0 a = some (.lst vs)) (r : Dats w G H0 vs ds) : ItOk true w G H0 (Ite K a) (enumD ds) := by
  unfold ItOk
  rw [enum_len, ← r.length]
  refine (walk_enum (K := K)).mono (fun H k => SqL.of (k.1 _ _ g e)) fun i H v H' hi k y => ?_
  obtain ⟨T, x, y, rfl, hT, rfl, e1, e2⟩ := y
  cases e1
  obtain ⟨d, h1, h2⟩ := (r.keepG k).getV e2
  exact ⟨same_new hT, _, enum_get h1, .inr ⟨rfl, T, _, _, _, _, rfl, upd_same, .int _, h2.same (same_new hT), rfl⟩⟩
theorem it_enumT {a : Addr} {o : Obj} {vs : List V} {ds : List D} (e : H0 a = some (.frz o (.tup vs))) (r : Dats w G H0 vs ds) : ItOk true w G H0 (IteT K a) (enumD ds) := by
  unfold ItOk
  rw [enum_len, ← r.length]
  refine (walk_enumT (K := K)).mono (fun H k => SqT.fz (k.2 _ _ _ e)) fun i H v H' hi k y => ?_
  obtain ⟨T, x, y, rfl, hT, rfl, e1, e2⟩ := y
  cases e1
  obtain ⟨d, h1, h2⟩ := (r.keepG k).getV e2
  exact ⟨same_new hT, _, enum_get h1, .inr ⟨rfl, T, _, _, _, _, rfl, upd_same, .int _, h2.same (same_new hT), rfl⟩⟩
theorem it_enumS {z : Str} : ItOk true w G H0 (IteS z) (enumD (z.cps.toList.map fun c => .str ⟨#[c]⟩)) := by
  have hl : (z.cps.toList.map fun c => (PyData.str ⟨#[c]⟩ : D)).length = z.cps.size := by simp
  unfold ItOk
  rw [enum_len, hl]
  refine walk_enumS.mono (fun H k => trivial) fun i H v H' hi k y => ?_
  obtain ⟨T, x, y, rfl, hT, rfl, e1, e2⟩ := y
  cases e1
  obtain ⟨c, hc, rfl⟩ := map_some e2
  refine ⟨same_new hT, _, enum_get (x := .str ⟨#[c]⟩) ?_, .inr ⟨rfl, T, _, _, _, _, rfl, upd_same, .int _, .str _, rfl⟩⟩
  rw [List.getElem?_map, Array.getElem?_toList, hc]
  rfl
theorem zip_len (xs ys : List D) : (zipD xs ys).length = min xs.length ys.length := by simp [zipD]
theorem zip_get {xs ys : List D} {i : Nat} {x y : D} (h : xs[i]? = some x) (h2 : ys[i]? = some y) : (zipD xs ys)[i]? = some (.tuple [x, y]) := by
  simp [zipD, List.getElem?_zipWith, h, h2]
theorem it_zip {a b : Addr} {vs us : List V} {ds es : List D} (g : G a) (g2 : G b) (e : H0 a = some (.lst vs)) (e2 : H0 b = some (.lst us)) (r : Dats w G H0 vs ds) (r2 : Dats w G H0 us es) : ItOk true w G H0 (Itz K a b) (zipD ds es) := by
  unfold ItOk
  rw [zip_len, ← r.length, ← r2.length]
  refine (walk_zip (K := K) rfl).mono (fun H k => ⟨SqL.of (k.1 _ _ g e), SqL.of (k.1 _ _ g2 e2)⟩) fun i H v H' hi k y => ?_
  obtain ⟨T, x, y, rfl, hT, rfl, q1, q2⟩ := y
  obtain ⟨d, h1, h2⟩ := (r.keepG k).getV q1
  obtain ⟨d', h1', h2'⟩ := (r2.keepG k).getV q2
  exact ⟨same_new hT, _, zip_get h1 h1', .inr ⟨rfl, T, _, _, _, _, rfl, upd_same, h2.same (same_new hT), h2'.same (same_new hT), rfl⟩⟩
theorem it_zipT {a b : Addr} {o o2 : Obj} {vs us : List V} {ds es : List D} (e : H0 a = some (.frz o (.tup vs))) (e2 : H0 b = some (.frz o2 (.tup us))) (r : Dats w G H0 vs ds) (r2 : Dats w G H0 us es) : ItOk true w G H0 (RZ.ItzT K a b) (zipD ds es) := by
  unfold ItOk
  rw [zip_len, ← r.length, ← r2.length]
  refine (walk_zipT (K := K) rfl).mono (fun H k => ⟨SqT.fz (k.2 _ _ _ e), SqT.fz (k.2 _ _ _ e2)⟩) fun i H v H' hi k y => ?_
  obtain ⟨T, x, y, rfl, hT, rfl, q1, q2⟩ := y
  obtain ⟨d, h1, h2⟩ := (r.keepG k).getV q1
  obtain ⟨d', h1', h2'⟩ := (r2.keepG k).getV q2
  exact ⟨same_new hT, _, zip_get h1 h1', .inr ⟨rfl, T, _, _, _, _, rfl, upd_same, h2.same (same_new hT), h2'.same (same_new hT), rfl⟩⟩
end

section
variable {X : Cx} {Φ : Fs} {gk : List (Str × D)} {k : Nat} {tg : Expr} {pr : Bool}
theorem pi_weak {e : Expr} {t t' : TI} (h : PI X tg e t) (f : ∀ σ H R, t' σ H R → t σ H R) : PI X tg e t' := ⟨fun pins s σ H R I q => h.run pins s σ H R I (f σ H R q)⟩
theorem i_seq {e : Expr} {m : ME} (h : Snd X Φ e m) : PI X tg e (tI pr X.w Φ (.seq m)) := by
  refine ⟨fun pins s σ H R I ⟨g, G, ρ, s0, xs, s', E, ee, q⟩ => ?_⟩
  rw [evi] at ee
  obtain ⟨⟨x, s1⟩, e1, e2⟩ := bind_some ee
  obtain ⟨ys, e3, e4⟩ := map_some e2
  cases e4
  unfold itOf at e3
  split at e3
  · cases e3
    refine (pi_list h.pe).run pins s σ H R I (one E e1 fun v H1 k1 r1 d1 => ?_)
    obtain ⟨a, vs, rfl, ga, ea, r⟩ := d1.listE
    exact ⟨a, rfl, ⟨vs, SqL.of ea⟩, q _ _ k1 r1 (it_list ⟨ga, ea ▸ nofun⟩ ea r.live)⟩
  · cases e3
    refine (pi_tup h.pe).run pins s σ H R I (one E e1 fun v H1 k1 r1 d1 => ?_)
    obtain ⟨a, o, vs, rfl, ea, nd, r⟩ := d1.tupE
    exact ⟨a, rfl, ⟨vs, SqT.fz ea⟩, q _ _ k1 r1 (it_tup ea r.live)⟩
  · split at e3
    · cases e3
      refine (pi_str h.pe).run pins s σ H R I (one E e1 fun v H1 k1 r1 d1 => ?_)
      obtain rfl := d1.strE
      exact ⟨_, rfl, q _ _ k1 r1 it_str⟩
    · cases e3
  · cases e3
theorem i_range1 (C : XC X Φ gk k) {e : Expr} {m : ME} {p pos : Pos} (hg : X.env.scope.names.lookup ("range" : Str) = some .globalImplicit) (h : Snd X Φ e m) (hn : ∀ (es : List Expr) (env : Env), starEach (e :: es) env = (false, eval e env) :: starEach es env) :
    PI X tg (.Call (.Name "range" p) [e] [] pos) (tI pr X.w Φ (.range1 m)) := by
  refine pi_weak (pi_range1 hg (C.bl "range" (by decide +kernel)) (pa_cons h.pe pa_nil (hn _ _)) (hn _ _)) fun σ H R ⟨g, G, ρ, s0, xs, s', E, ee, q⟩ => ?_
  rw [evi] at ee
  obtain ⟨⟨x, s1⟩, e1, e2⟩ := bind_some ee
  refine one E e1 fun v H1 k1 r1 d1 => ?_
  dsimp only at e2
  split at e2
  · split at e2
    · rename_i hz
      cases e2
      obtain rfl := d1.intE
      exact ⟨_, rfl, hz.1, hz.2, q _ _ k1 r1 it_range⟩
    · cases e2
  · cases e2
theorem i_range2 (C : XC X Φ gk k) {e f : Expr} {m n : ME} {p pos : Pos} (hg : X.env.scope.names.lookup ("range" : Str) = some .globalImplicit) (h : Snd X Φ e m) (h2 : Snd X Φ f n) (hn : ∀ (es : List Expr) (env : Env), starEach (e :: es) env = (false, eval e env) :: starEach es env)
    (hn2 : ∀ (es : List Expr) (env : Env), starEach (f :: es) env = (false, eval f env) :: starEach es env) : PI X tg (.Call (.Name "range" p) [e, f] [] pos) (tI pr X.w Φ (.range2 m n)) := by
  refine pi_weak (pi_range2 hg (C.bl "range" (by decide +kernel)) (pa_cons h.pe (pa_cons h2.pe pa_nil (hn2 _ _)) (hn _ _)) (by rw [hn, hn2]; rfl) (by rw [hn2]; rfl)) fun σ H R ⟨g, G, ρ, s0, xs, s', E, ee, q⟩ => ?_
  rw [evi] at ee
  obtain ⟨⟨x, s1⟩, e1, e2⟩ := bind_some ee
  obtain ⟨⟨y, s2⟩, e3, e4⟩ := bind_some e2
  refine two E e1 e3 fun v u H2 k2 r2 d1 d2 => ?_
  dsimp only at e4
  split at e4
  · split at e4
    · rename_i hz
      cases e4
      obtain rfl := d1.intE
      obtain rfl := d2.intE
      exact ⟨_, _, rfl, ⟨hz.1.1, hz.1.2, hz.2.1, hz.2.2⟩, q _ _ k2 r2 it_range⟩
    · cases e4
  · cases e4
theorem i_enum (C : XC X Φ gk k) {elts : List Expr} {kk : Nat} {tpos : Pos} {e : Expr} {m : ME} {p pos : Pos} (hg : X.env.scope.names.lookup ("enumerate" : Str) = some .globalImplicit) (h : Snd X Φ e m) (hn : ∀ (es : List Expr) (env : Env), starEach (e :: es) env = (false, eval e env) :: starEach es env) :
    PI X (.Tuple elts kk tpos) (.Call (.Name "enumerate" p) [e] [] pos) (tI true X.w Φ (.enum m)) := by
  have hm := C.bl "enumerate" (by decide +kernel)
  refine ⟨fun pins s σ H R I ⟨g, G, ρ, s0, xs, s', E, ee, q⟩ => ?_⟩
  rw [evi] at ee
  obtain ⟨⟨x, s1⟩, e1, e2⟩ := bind_some ee
  dsimp only at e2
  split at e2
  · cases e2
    refine (pi_enum hg hm (pa_cons h.pe pa_nil (hn _ _)) (hn _ _)).run pins s σ H R I (one E e1 fun v H1 k1 r1 d1 => ?_)
    obtain ⟨a, vs, rfl, ga, ea, r⟩ := d1.listE
    exact ⟨a, vs, rfl, SqL.of ea, q _ _ k1 r1 (it_enum ⟨ga, ea ▸ nofun⟩ ea r.live)⟩
  · cases e2
    refine (pi_enumT hg hm (pa_cons h.pe pa_nil (hn _ _)) (hn _ _)).run pins s σ H R I (one E e1 fun v H1 k1 r1 d1 => ?_)
    obtain ⟨a, o, vs, rfl, ea, nd, r⟩ := d1.tupE
    exact ⟨a, vs, rfl, SqT.fz ea, q _ _ k1 r1 (it_enumT ea r.live)⟩
  · cases e2
    refine (pi_enumS hg hm (pa_cons h.pe pa_nil (hn _ _)) (hn _ _)).run pins s σ H R I (one E e1 fun v H1 k1 r1 d1 => ?_)
    obtain rfl := d1.strE
    exact ⟨_, rfl, q _ _ k1 r1 it_enumS⟩
  · cases e2
theorem i_zip (C : XC X Φ gk k) {elts : List Expr} {kk : Nat} {tpos : Pos} {e f : Expr} {m n : ME} {p pos : Pos} (hg : X.env.scope.names.lookup ("zip" : Str) = some .globalImplicit) (h : Snd X Φ e m) (h2 : Snd X Φ f n) (hn : ∀ (es : List Expr) (env : Env), starEach (e :: es) env = (false, eval e env) :: starEach es env)
    (hn2 : ∀ (es : List Expr) (env : Env), starEach (f :: es) env = (false, eval f env) :: starEach es env) : PI X (.Tuple elts kk tpos) (.Call (.Name "zip" p) [e, f] [] pos) (tI true X.w Φ (.zip m n)) := by
  have hm := C.bl "zip" (by decide +kernel)
  have hpl : (backTo pos (starEach [f] X.env)).any (·.1) = false := any_back fun y hy => by
    rw [hn2 [] X.env] at hy
    rcases List.mem_cons.mp hy with e | e
    · rw [e]
    · cases e
  refine pi_weak (RZ.pi_zipA hg hm (pa_cons h.pe (pa_cons h2.pe pa_nil (hn2 _ _)) (hn _ _)) (hn _ _) hpl) fun σ H R ⟨g, G, ρ, s0, xs, s', E, ee, q⟩ => ?_
  rw [evi] at ee
  obtain ⟨⟨x, s1⟩, e1, e2⟩ := bind_some ee
  obtain ⟨⟨y, s2⟩, e3, e4⟩ := bind_some e2
  refine two E e1 e3 fun v u H2 k2 r2 d1 d2 => ?_
  dsimp only at e4
  split at e4
  · cases e4
    obtain ⟨a, vs, rfl, ga, ea, r⟩ := d1.listE
    obtain ⟨b, us, rfl, gb, eb, r'⟩ := d2.listE
    exact ⟨a, b, vs, us, rfl, .inl ⟨SqL.of ea, SqL.of eb, q _ _ k2 r2 (it_zip ⟨ga, ea ▸ nofun⟩ ⟨gb, eb ▸ nofun⟩ ea eb r.live r'.live)⟩⟩
  · cases e4
    obtain ⟨a, o, vs, rfl, ea, nd, r⟩ := d1.tupE
    obtain ⟨b, o', us, rfl, eb, nd', r'⟩ := d2.tupE
    exact ⟨a, b, vs, us, rfl, .inr ⟨SqT.fz ea, SqT.fz eb, q _ _ k2 r2 (it_zipT ea eb r.live r'.live)⟩⟩
  · cases e4
end
end Os
end
section
set_option linter.all false
set_option maxRecDepth 100000
set_option maxHeartbeats 4000000
/-! OsL: targets; comprehensions. -/
namespace Os
open PySem PySem.Spec PyProof.Rows L2

/-- a target's store -/
def gM (K : PySem.W.Frag) : MT → TG
  | .nm i => gName i
  | .two a b => gTup K 2 (gCons (gM K a) (gCons (gM K b) gNil))
  | .three a b c => gTup K 3 (gCons (gM K a) (gCons (gM K b) (gCons (gM K c) gNil)))
  | .four a b c d => gTup K 4 (gCons (gM K a) (gCons (gM K b) (gCons (gM K c) (gCons (gM K d) gNil))))
  | .sixL a b c d e f => gUnl K 6 (gCons (gM K a) (gCons (gM K b) (gCons (gM K c) (gCons (gM K d) (gCons (gM K e) (gCons (gM K f) gNil))))))
theorem TrT.ns {N : List Str} {fn : Str → Bool} {sc : Scope} {e : Expr} {t : MT} (h : TrT N fn sc e t) : ∀ (es : List Expr) (env : Env), assignEach (e :: es) env = (false, assign e env) :: assignEach es env := by
  cases h <;> intro _ _ <;> rfl
theorem pg_ok {X : Cx} (hc : X.calm = true) (hN : X.N.Nodup) : ∀ {e : Expr} {t : MT}, TrT X.N X.fn X.env.scope e t → PG X e (gM X.K t)
  | _, _, .nm h1 h2 h3 => pg_name hN h1 h2 h3
  | _, _, .two a b => by
    have ha := a.ns
    have hb := b.ns
    exact pg_tup hc (pgs_cons (pg_ok hc hN a) (pgs_cons (pg_ok hc hN b) pgs_nil (by rw [hb]; rfl)) (by rw [ha]; rfl)) (by rw [ha, hb]; rfl) (by rw [ha, hb]; rfl)
  | _, _, .three a b c => by
    have ha := a.ns
    have hb := b.ns
    have hcc := c.ns
    exact pg_tup hc (pgs_cons (pg_ok hc hN a) (pgs_cons (pg_ok hc hN b) (pgs_cons (pg_ok hc hN c) pgs_nil (by rw [hcc]; rfl)) (by rw [hb]; rfl)) (by rw [ha]; rfl)) (by rw [ha, hb, hcc]; rfl) (by rw [ha, hb, hcc]; rfl)
  | _, _, .four a b c d => by
    have ha := a.ns
    have hb := b.ns
    have hcc := c.ns
    have hd := d.ns
    exact pg_tup hc (pgs_cons (pg_ok hc hN a) (pgs_cons (pg_ok hc hN b) (pgs_cons (pg_ok hc hN c) (pgs_cons (pg_ok hc hN d) pgs_nil (by rw [hd]; rfl)) (by rw [hcc]; rfl)) (by rw [hb]; rfl)) (by rw [ha]; rfl)) (by rw [ha, hb, hcc, hd]; rfl) (by rw [ha, hb, hcc, hd]; rfl)
  | _, _, .sixL a b c d e f => by
    have ha := a.ns
    have hb := b.ns
    have hcc := c.ns
    have hd := d.ns
    have he := e.ns
    have hf := f.ns
    exact pg_unl hc (pgs_cons (pg_ok hc hN a) (pgs_cons (pg_ok hc hN b) (pgs_cons (pg_ok hc hN c) (pgs_cons (pg_ok hc hN d) (pgs_cons (pg_ok hc hN e) (pgs_cons (pg_ok hc hN f) pgs_nil (by rw [hf]; rfl)) (by rw [he]; rfl)) (by rw [hd]; rfl)) (by rw [hcc]; rfl)) (by rw [hb]; rfl)) (by rw [ha]; rfl))
      (by rw [ha, hb, hcc, hd, he, hf]; rfl) (by rw [ha, hb, hcc, hd, he, hf]; rfl)

theorem wipe_set {σ : L2.St} {i : Nat} {x : Option V} : ∀ {vs : List Nat}, i ∈ vs → wipe (σ.set i x) vs = wipe σ vs
  | v :: vs, h => by
    unfold wipe
    by_cases hi : i ∈ vs
    · rw [wipe_set hi]
    · have e : i = v := by
        rcases List.mem_cons.mp h with e | e
        · exact e
        · exact absurd e hi
      subst e
      apply List.ext_getElem?
      intro j
      by_cases hj : i = j
      · subst hj
        by_cases hl : i < σ.length
        · rw [List.getElem?_set_self (by rw [wipe_length, List.length_set]; exact hl), List.getElem?_set_self (by rw [wipe_length]; exact hl)]
        · rw [List.getElem?_eq_none (by rw [List.length_set, wipe_length, List.length_set]; omega), List.getElem?_eq_none (by rw [List.length_set, wipe_length]; omega)]
      · rw [List.getElem?_set_ne hj, List.getElem?_set_ne hj]
        by_cases hv : j ∈ vs
        · by_cases hl : j < σ.length
          · have f : ∀ (τ : L2.St), j < τ.length → ∀ {us : List Nat}, j ∈ us → (wipe τ us)[j]? = some none := by
              intro τ ht us
              induction us with
              | nil => intro z; cases z
              | cons u us ih =>
                intro z
                unfold wipe
                by_cases hu : u = j
                · subst hu
                  rw [List.getElem?_set_self (by rw [wipe_length]; exact ht)]
                · rw [List.getElem?_set_ne hu]
                  exact ih ((List.mem_cons.mp z).resolve_left fun e => hu e.symm)
            rw [f _ (by rw [List.length_set]; exact hl) hv, f _ hl hv]
          · rw [List.getElem?_eq_none (by rw [wipe_length, List.length_set]; omega), List.getElem?_eq_none (by rw [wipe_length]; omega)]
        · rw [wipe_out hv, wipe_out hv, List.getElem?_set_ne hj]
theorem wipe_some2 {σ : L2.St} {j : Nat} : ∀ {vs : List Nat}, j ∈ vs → j < σ.length → (wipe σ vs)[j]? = some none
  | u :: us, z, ht => by
    unfold wipe
    by_cases hu : u = j
    · subst hu
      rw [List.getElem?_set_self (by rw [wipe_length]; exact ht)]
    · rw [List.getElem?_set_ne hu]
      exact wipe_some2 ((List.mem_cons.mp z).resolve_left fun e => hu e.symm) ht
theorem wipe_twice (σ : L2.St) (vs : List Nat) : wipe (wipe σ vs) vs = wipe σ vs := by
  apply List.ext_getElem?
  intro j
  by_cases hv : j ∈ vs
  · by_cases hl : j < σ.length
    · rw [wipe_some2 hv hl, wipe_some2 hv (by rw [wipe_length]; exact hl)]
    · rw [List.getElem?_eq_none (by rw [wipe_length, wipe_length]; omega), List.getElem?_eq_none (by rw [wipe_length]; omega)]
  · rw [wipe_out hv, wipe_out hv]
theorem wipeS_length (ρ : LS) : ∀ vs : List Nat, (wipeS ρ vs).length = ρ.length
  | [] => rfl
  | v :: vs => by unfold wipeS; rw [List.length_set, wipeS_length ρ vs]
theorem wipeS_un {ρ : LS} {i : Nat} {x : SL} (hx : x ≠ SL.un) : ∀ {vs : List Nat}, (wipeS ρ vs)[i]? = some x → ρ[i]? = some x ∧ i ∉ vs
  | [], h => ⟨h, by simp⟩
  | v :: vs, h => by
    unfold wipeS at h
    by_cases hi : v = i
    · subst hi
      by_cases hv : v < (wipeS ρ vs).length
      · rw [List.getElem?_set_self hv] at h
        cases h
        exact absurd rfl hx
      · rw [List.getElem?_eq_none (by simpa using hv)] at h; cases h
    · rw [List.getElem?_set_ne hi] at h
      obtain ⟨h1, h2⟩ := wipeS_un hx h
      exact ⟨h1, by simp only [List.mem_cons, not_or]; exact ⟨fun e => hi e.symm, h2⟩⟩

section
variable {w : World} {g : GS T} {G : Addr → Prop} {H : Hp} {s : S1}
theorem ES.set {σ : L2.St} {ρ : LS} {i : Nat} {v : V} {x : D} (E : ES w g G σ H ρ s) (hi : i < ρ.length) (h : Dat w G H v x) : ES w g G (σ.set i (some v)) H (ρ.set i (.d x)) s where
  gok := E.gok
  src := E.src
  env := fun j y e => by
    by_cases hj : i = j
    · subst hj
      rw [List.getElem?_set_self hi] at e
      cases e
      exact ⟨v, List.getElem?_set_self (by rw [← E.len]; exact hi), h⟩
    · rw [List.getElem?_set_ne hj] at e
      rw [List.getElem?_set_ne hj]
      exact E.env j y e
  esrc := fun j e => by
    by_cases hj : i = j
    · subst hj
      rw [List.getElem?_set_self hi] at e
      cases e
    · rw [List.getElem?_set_ne hj] at e
      rw [List.getElem?_set_ne hj]
      exact E.esrc j e
  len := by rw [List.length_set, List.length_set, E.len]
theorem Dats.two {vs : List V} {a b : D} (r : Dats w G H vs [a, b]) : ∃ x y, vs = [x, y] ∧ Dat w G H x a ∧ Dat w G H y b := by
  cases r with
  | cons r1 r2 =>
    cases r2 with
    | cons r2 r3 =>
      cases r3
      exact ⟨_, _, rfl, r1, r2⟩
theorem Dats.three {vs : List V} {a b c : D} (r : Dats w G H vs [a, b, c]) : ∃ x y z, vs = [x, y, z] ∧ Dat w G H x a ∧ Dat w G H y b ∧ Dat w G H z c := by
  cases r with
  | cons r1 r2 =>
    obtain ⟨y, z, rfl, h1, h2⟩ := Dats.two r2
    exact ⟨_, _, _, rfl, r1, h1, h2⟩
theorem Dats.four {vs : List V} {a b c d : D} (r : Dats w G H vs [a, b, c, d]) : ∃ x y z t, vs = [x, y, z, t] ∧ Dat w G H x a ∧ Dat w G H y b ∧ Dat w G H z c ∧ Dat w G H t d := by
  cases r with
  | cons r1 r2 =>
    obtain ⟨y, z, t, rfl, h1, h2, h3⟩ := Dats.three r2
    exact ⟨_, _, _, _, rfl, r1, h1, h2, h3⟩
theorem Dats.six {vs : List V} {a b c d e f : D} (r : Dats w G H vs [a, b, c, d, e, f]) : ∃ x y z t u v, vs = [x, y, z, t, u, v] ∧ Dat w G H x a ∧ Dat w G H y b ∧ Dat w G H z c ∧ Dat w G H t d ∧ Dat w G H u e ∧ Dat w G H v f := by
  cases r with
  | cons r1 r2 =>
    cases r2 with
    | cons r2 r3 =>
      obtain ⟨y, z, t, u, rfl, h1, h2, h3, h4⟩ := Dats.four r3
      exact ⟨_, _, _, _, _, _, rfl, r1, r2, h1, h2, h3, h4⟩
/-- a store by the slots -/
theorem gm_run {K : PySem.W.Frag} : ∀ (t : MT) {v : V} {x : D} {ρ ρ1 : LS} {σ : L2.St} {Q : L2.St → Hp → Prop}, bindT t x ρ = some ρ1 → Dat w G H v x → ES w g G σ H ρ s →
    (∀ σ2, ES w g G σ2 H ρ1 s → (∀ vs, (∀ i ∈ t.slots, i ∈ vs) → wipe σ2 vs = wipe σ vs) → Q σ2 H) → gM K t v σ H Q
  | .nm i, v, x, ρ, ρ1, σ, Q, hb, d, E, q => by
    unfold bindT at hb
    split at hb
    · rename_i hi
      cases hb
      exact q _ (E.set hi d) fun vs h => wipe_set (h i (by simp [MT.slots]))
    · cases hb
  | .two a b, v, x, ρ, ρ1, σ, Q, hb, d, E, q => by
    unfold bindT at hb
    split at hb
    · obtain ⟨ρ2, h1, h2⟩ := bind_some hb
      obtain ⟨p, o, vs, rfl, e, nd, r⟩ := d.tupE
      obtain ⟨x1, x2, rfl, d1, d2⟩ := r.two
      exact ⟨p, _, rfl, SqT.fz e, rfl, _, _, rfl, gm_run a h1 d1 E fun σ1 E1 w1 => ⟨_, _, rfl, gm_run b h2 d2 E1 fun σ2 E2 w2 => ⟨rfl, q σ2 E2 fun us h => by
        rw [w2 us fun i hi => h i (by simp [MT.slots, hi]), w1 us fun i hi => h i (by simp [MT.slots, hi])]⟩⟩⟩
    · cases hb
  | .three a b c, v, x, ρ, ρ1, σ, Q, hb, d, E, q => by
    unfold bindT at hb
    split at hb
    · obtain ⟨ρ3, hb, h3⟩ := bind_some hb
      obtain ⟨ρ2, h1, h2⟩ := bind_some hb
      obtain ⟨p, o, vs, rfl, e, nd, r⟩ := d.tupE
      obtain ⟨x1, x2, x3, rfl, d1, d2, d3⟩ := r.three
      exact ⟨p, _, rfl, SqT.fz e, rfl, _, _, rfl, gm_run a h1 d1 E fun σ1 E1 w1 => ⟨_, _, rfl, gm_run b h2 d2 E1 fun σ2 E2 w2 => ⟨_, _, rfl, gm_run c h3 d3 E2 fun σ3 E3 w3 => ⟨rfl, q σ3 E3 fun us h => by
        rw [w3 us fun i hi => h i (by simp [MT.slots, hi]), w2 us fun i hi => h i (by simp [MT.slots, hi]), w1 us fun i hi => h i (by simp [MT.slots, hi])]⟩⟩⟩⟩
    · cases hb
  | .four a b c f, v, x, ρ, ρ1, σ, Q, hb, d, E, q => by
    unfold bindT at hb
    split at hb
    · obtain ⟨ρ4, hb, h4⟩ := bind_some hb
      obtain ⟨ρ3, hb, h3⟩ := bind_some hb
      obtain ⟨ρ2, h1, h2⟩ := bind_some hb
      obtain ⟨p, o, vs, rfl, e, nd, r⟩ := d.tupE
      obtain ⟨x1, x2, x3, x4, rfl, d1, d2, d3, d4⟩ := r.four
      exact ⟨p, _, rfl, SqT.fz e, rfl, _, _, rfl, gm_run a h1 d1 E fun σ1 E1 w1 => ⟨_, _, rfl, gm_run b h2 d2 E1 fun σ2 E2 w2 => ⟨_, _, rfl, gm_run c h3 d3 E2 fun σ3 E3 w3 => ⟨_, _, rfl, gm_run f h4 d4 E3 fun σ4 E4 w4 => ⟨rfl, q σ4 E4 fun us h => by
        rw [w4 us fun i hi => h i (by simp [MT.slots, hi]), w3 us fun i hi => h i (by simp [MT.slots, hi]), w2 us fun i hi => h i (by simp [MT.slots, hi]), w1 us fun i hi => h i (by simp [MT.slots, hi])]⟩⟩⟩⟩⟩
    · cases hb
  | .sixL a b c f a' b', v, x, ρ, ρ1, σ, Q, hb, d, E, q => by
    unfold bindT at hb
    split at hb
    · obtain ⟨ρ6, hb, h6⟩ := bind_some hb
      obtain ⟨ρ5, hb, h5⟩ := bind_some hb
      obtain ⟨ρ4, hb, h4⟩ := bind_some hb
      obtain ⟨ρ3, hb, h3⟩ := bind_some hb
      obtain ⟨ρ2, h1, h2⟩ := bind_some hb
      obtain ⟨p, vs, rfl, _, e, r⟩ := d.listE
      obtain ⟨x1, x2, x3, x4, x5, x6, rfl, d1, d2, d3, d4, d5, d6⟩ := r.six
      exact ⟨p, _, rfl, SqL.of e, rfl, _, _, rfl, gm_run a h1 d1 E fun σ1 E1 w1 => ⟨_, _, rfl, gm_run b h2 d2 E1 fun σ2 E2 w2 => ⟨_, _, rfl, gm_run c h3 d3 E2 fun σ3 E3 w3 => ⟨_, _, rfl, gm_run f h4 d4 E3 fun σ4 E4 w4 => ⟨_, _, rfl, gm_run a' h5 d5 E4 fun σ5 E5 w5 =>
        ⟨_, _, rfl, gm_run b' h6 d6 E5 fun σ6 E6 w6 => ⟨rfl, q σ6 E6 fun us h => by
        rw [w6 us fun i hi => h i (by simp [MT.slots, hi]), w5 us fun i hi => h i (by simp [MT.slots, hi]), w4 us fun i hi => h i (by simp [MT.slots, hi]), w3 us fun i hi => h i (by simp [MT.slots, hi]), w2 us fun i hi => h i (by simp [MT.slots, hi]), w1 us fun i hi => h i (by simp [MT.slots, hi])]⟩⟩⟩⟩⟩⟩⟩
    · cases hb
/-- one item -/
theorem gm_item {K : PySem.W.Frag} {pr : Bool} (t : MT) (ht : pr = true → ∀ i, t ≠ .nm i) {v : V} {x : D} {ρ ρ1 : LS} {σ : L2.St} {Q : L2.St → Hp → Prop} (hb : bindT t x ρ = some ρ1) (d : ItemR pr w G H v x) (E : ES w g G σ H ρ s)
    (q : ∀ σ2, ES w g G σ2 H ρ1 s → (∀ vs, (∀ i ∈ t.slots, i ∈ vs) → wipe σ2 vs = wipe σ vs) → Q σ2 H) : gM K t v σ H Q := by
  rcases d with d | ⟨hp, T, x1, x2, dx, dy, rfl, e, d1, d2, rfl⟩
  · exact gm_run t hb d E q
  · cases t with
    | nm i => exact absurd rfl (ht hp i)
    | two a b =>
      rw [bindT] at hb
      obtain ⟨ρ2, h1, h2⟩ := bind_some hb
      exact ⟨T, _, rfl, SqT.of e, rfl, _, _, rfl, gm_run a h1 d1 E fun σ1 E1 w1 => ⟨_, _, rfl, gm_run b h2 d2 E1 fun σ2 E2 w2 => ⟨rfl, q σ2 E2 fun us h => by
        rw [w2 us fun i hi => h i (by simp [MT.slots, hi]), w1 us fun i hi => h i (by simp [MT.slots, hi])]⟩⟩⟩
    | three a b c => simp [bindT] at hb
    | four a b c f => simp [bindT] at hb
    | sixL a b c d e f => simp [bindT] at hb
end

section
variable {T : List (Addr × Str)} {g : GS T} {H : Hp} {s : S1}
/-- no code object of a lambda -/
def NoCode (H : Hp) (p : Addr) : Prop := ∀ q, H p ≠ some (LamX.CodeO p q)
theorem noCode_none {p : Addr} (h : H p = none) : NoCode H p := fun q z => by
  rw [h] at z
  cases z
theorem noCode_lst {p : Addr} {xs : List V} (h : H p = some (.lst xs)) : NoCode H p := fun q z => by
  rw [h] at z
  cases (Option.some.inj z : HO.lst xs = LamX.CodeO p q)
theorem noCode_dK {p : Addr} {xs : List (Key × V)} (h : H p = some (.dK xs)) : NoCode H p := fun q z => by
  rw [h] at z
  cases (Option.some.inj z : HO.dK xs = LamX.CodeO p q)
theorem tabs_upd {T : List (Addr × Str)} {p : Addr} {o : HO} (t : LamX.Tabs T H) (n : p ∉ T.map (·.1)) (h : NoCode H p) : LamX.Tabs T (upd H p o) := fun x hx => by
  obtain ⟨ps, h1, h2, h3⟩ := t x hx
  refine ⟨ps, by rw [upd_ne (fun z => n (List.mem_map.mpr ⟨x, hx, z⟩))]; exact h1, h2, fun pos cv hc => ?_⟩
  obtain ⟨c, e1, e2⟩ := h3 pos cv hc
  refine ⟨c, e1, ?_⟩
  rw [upd_ne]
  · exact e2
  · intro z
    rw [z] at e2
    exact h _ e2
theorem Src0.upd {p : Addr} {o : HO} : ∀ {g : Option (Addr × Addr)} {s : S1}, Src0 g H s → (∀ a c, g = some (a, c) → a ≠ p ∧ c ≠ p) → Src0 g (upd H p o) s
  | none, none, _, _ => trivial
  | some (a, c), some S, r, h => by
    obtain ⟨h1, h2⟩ := h a c rfl
    exact ⟨by rw [upd_ne h1]; exact r.1, by rw [upd_ne h2]; exact r.2⟩
  | none, some _, r, _ => r.elim
  | some _, none, r, _ => r.elim
theorem SrcR.upd {p : Addr} {o : HO} (r : SrcR g H s) (n : ¬ Own2 g p) (h : NoCode H p) : SrcR g (upd H p o) s :=
  ⟨r.1.upd fun a c e => ⟨fun z => n (.inl ⟨a, c, e, .inl z.symm⟩), fun z => n (.inl ⟨a, c, e, .inr z.symm⟩)⟩, tabs_upd r.2 (fun z => n (.inr z)) h⟩
end
section
variable {w : World} {K : PySem.W.Frag} {Φ : Fs} {g : GS Φ.T} {G : Addr → Prop} {H H1 H2 H' : Hp} {s s1 : S1}
theorem Same.dead {b : Addr} (h : Same H H1) (e : H1 b = none) : H b = none := by
  cases q : H b with
  | none => rfl
  | some o =>
    rw [h b o q] at e
    cases e
/-- a comprehension's turns -/
theorem comp_run {pr : Bool} {t : MT} {fs : MEs} {me : ME} {own : List Nat} {σ : L2.St} {ρ : LS} {xs ys : List D} {s' : S1} {J : It} {Q : VK} {Dn : Addr} (ht : pr = true → ∀ i, t ≠ .nm i) (hsl : ∀ i ∈ t.slots, i ∈ own) (E : ES w g G σ H ρ s) (k1 : Keep g H H1) (r1 : SrcR g H1 s1) (hJ : ItOk pr w (fun b => Up G H b ∧ H1 b ≠ none) H1 J xs) (hD : H1 Dn = none)
    (hr : compRun (evt Φ.l fs) (ev Φ.l me) t (wipeS ρ own) xs s1 = some (ys, s')) (hz : ys.length ≤ sizeLine) (q : ∀ H', Ps w g G H H' (.ref Dn) (.list ys) s' → NewL w G H H' (.ref Dn) (.list ys) → Q (.ref Dn) H') :
    ∃ W : Nat → Nat → Hp → Prop, (∃ m, W 0 m (upd H1 Dn (.lst []))) ∧ ∀ i m H, W i m H →
      (J.stop i H ∧ Q (.ref Dn) H) ∨ (J.go i H ∧ ∃ Nx : Hp → Prop, (∀ H', Nx H' → ∃ m', m' < m ∧ W (i + 1) m' H') ∧ ∀ x H', J.yld i H x H' → gM K t x (wipe σ own) H' fun σ2 H2 => wipe σ2 own = wipe σ own ∧ tFs w Φ fs σ2 H2 fun b H3 =>
        if b = true then tE w Φ me σ2 H3 fun y H4 => ∃ acc, H4 Dn = some (.lst acc) ∧ acc.length < sizeLine ∧ Nx (upd H4 Dn (.lst (acc ++ [y]))) else Nx H3) := by
  have nD : ¬ Own2 g Dn := fun z => r1.there z hD
  have gok1 : ∀ b, Up (Up G H) H1 b → ¬ Own2 g b := Up.gok r1 (Up.gok E.src E.gok)
  have aH : H Dn = none := k1.alive r1 hD
  refine lc_it hJ (fun i Hc => ∃ (acc : List V) (ds rest : List D) (si : S1), Hc Dn = some (.lst acc) ∧ Keep g H1 Hc ∧ SrcR g Hc si ∧ Dats w (fun b => Up (Up G H) H1 b ∧ b ≠ Dn) Hc acc ds ∧ compRun (evt Φ.l fs) (ev Φ.l me) t (wipeS ρ own) (xs.drop i) si = some (rest, s') ∧ ds ++ rest = ys)
    ⟨[], [], ys, s1, upd_same, fun b o e n => by rw [upd_ne (ne_of_none e hD)]; exact e, r1.upd nD (noCode_none hD), .nil, by simpa using hr, rfl⟩ (fun i Hc hi ⟨acc, ds, rest, si, h1, h2, h3, h4, h5, h6⟩ => ?_) (fun i x Hc Hx hi ⟨acc, ds, rest, si, h1, h2, h3, h4, h5, h6⟩ hy => ?_) (fun Hc ⟨acc, ds, rest, si, h1, h2, h3, h4, h5, h6⟩ => ?_)
  · exact ⟨fun b o gb e => h2 b o e (gok1 b (.inl gb.1)), fun b o xs e => h2 b _ e (r1.tup e)⟩
  · obtain ⟨sm, d, hd, it⟩ := hy
    have hdr : xs.drop i = d :: xs.drop (i + 1) := by
      obtain ⟨hl, hv⟩ := List.getElem?_eq_some_iff.mp hd
      rw [← hv]
      exact List.drop_eq_getElem_cons hl
    rw [hdr, compRun] at h5
    obtain ⟨ρ1, b1, h5⟩ := bind_some h5
    obtain ⟨⟨b, sb⟩, b2, h5⟩ := bind_some h5
    dsimp only at h5
    -- the slots at the turn's start
    have lift : ∀ {v : V} {x : D}, Dat w G H v x → Dat w (fun b => Up (Up G H) H1 b ∧ b ≠ Dn) Hx v x := fun {v x} r => by
      have r0 := ((r.live.keep k1 E.src fun b z => E.gok b z.1).keep h2 r1 fun b z => E.gok b z.1).same sm
      exact r0.mono fun b z => ⟨.inl (.inl z.1), fun e => z.2 (e ▸ aH)⟩
    have E0 : ES w g (fun b => Up (Up G H) H1 b ∧ b ≠ Dn) (wipe σ own) Hx (wipeS ρ own) si := {
      gok := fun b z => gok1 b z.1
      src := h3.same sm
      env := fun j y e => by
        obtain ⟨e1, e2⟩ := wipeS_un (by simp) e
        obtain ⟨v, hv, hdv⟩ := E.env j y e1
        exact ⟨v, by rw [wipe_out e2]; exact hv, lift hdv⟩
      esrc := fun j e => by
        obtain ⟨e1, e2⟩ := wipeS_un (by simp) e
        obtain ⟨a, c, hg, hv⟩ := E.esrc j e1
        exact ⟨a, c, hg, by rw [wipe_out e2]; exact hv⟩
      len := by rw [wipeS_length, wipe_length, E.len] }
    have it' : ItemR pr w (fun b => Up (Up G H) H1 b ∧ b ≠ Dn) Hx x d := by
      have f : ∀ {v : V} {x : D}, Dat w (fun b => Up G H b ∧ H1 b ≠ none) Hx v x → Dat w (fun b => Up (Up G H) H1 b ∧ b ≠ Dn) Hx v x := fun {v x} r => r.mono fun b z => ⟨.inl z.1, fun e => z.2 (e ▸ hD)⟩
      rcases it with r | ⟨hp, T, x1, x2, dx, dy, e0, e1, r, r', e2⟩
      · exact .inl (f r)
      · exact .inr ⟨hp, T, x1, x2, dx, dy, e0, e1, f r, f r', e2⟩
    refine gm_item t ht b1 it' E0 fun σ2 E1 hw => ⟨by rw [hw own hsl, wipe_twice], ?_⟩
    have x1 : Hx Dn = some (.lst acc) := sm _ _ h1
    refine ⟨g, _, ρ1, si, b, sb, E1, b2, fun H3 k3 r3 => ?_⟩
    have x3 : H3 Dn = some (.lst acc) := k3 _ _ x1 nD
    have k13 : Keep g H1 H3 := (h2.trans (Keep.of sm)).trans k3
    have a3 : Dats w (fun b => Up (Up G H) H1 b ∧ b ≠ Dn) H3 acc ds := (h4.same sm).keep k3 E1.src fun b z => gok1 b z.1
    cases b with
    | false =>
      rw [if_neg (by simp)] at h5
      dsimp only
      rw [if_neg (by simp)]
      exact ⟨acc, ds, rest, sb, x3, k13, r3, a3, h5, h6⟩
    | true =>
      rw [if_pos rfl] at h5
      dsimp only
      rw [if_pos rfl]
      obtain ⟨⟨y, s2⟩, b3, h5⟩ := bind_some h5
      obtain ⟨⟨rest2, s3⟩, b4, h5⟩ := map_some h5
      cases h5
      refine ⟨g, _, ρ1, sb, y, s2, E1.step k3 r3, b3, fun v H4 p _ => ?_⟩
      have x4 : H4 Dn = some (.lst acc) := p.keep _ _ x3 nD
      have hlen : acc.length < sizeLine := by
        have e1 := h4.length
        have e2 := congrArg List.length h6
        rw [List.length_append, List.length_cons] at e2
        omega
      have k14 : Keep g H1 H4 := k13.trans p.keep
      have up : ∀ {vs : List V} {es : List D}, Dats w (fun b => Up (Up G H) H1 b ∧ b ≠ Dn) H4 vs es → Dats w (fun b => Up (Up G H) H1 b ∧ b ≠ Dn) (upd H4 Dn (.lst (acc ++ [v]))) vs es := fun {vs es} r =>
        r.go (fun b o z e => ⟨by rw [upd_ne z.2]; exact e, z⟩) fun b o us e => by
          rw [upd_ne fun z => by rw [z, x4] at e; cases e]
          exact e
      have dv : Dat w (fun b => Up (Up G H) H1 b ∧ b ≠ Dn) H4 v y := p.dat.mono fun b z => by
        rcases z with (z | z) | z
        · exact z
        · have z1 : Hc b = none := Same.dead sm z
          exact ⟨.inr (h2.alive h3 z1), fun e => by rw [e, h1] at z1; cases z1⟩
        · have z0 : Hx b = none := k3.alive r3 z
          have z1 : Hc b = none := Same.dead sm z0
          exact ⟨.inr (h2.alive h3 z1), fun e => by rw [e, h1] at z1; cases z1⟩
      refine ⟨acc, x4, hlen, acc ++ [v], ds ++ [y], rest2, s2, upd_same, fun b o e n => by rw [upd_ne (ne_of_none e hD)]; exact k14 b o e n, p.src.upd nD (noCode_lst x4), ?_, b4, by rw [List.append_assoc]; exact h6⟩
      exact up ((a3.keep p.keep r3 fun b z => gok1 b z.1).append (.cons dv .nil))
  · have e0 : xs.drop xs.length = [] := List.drop_length ..
    rw [e0, compRun] at h5
    cases h5
    rw [List.append_nil] at h6
    subst h6
    have dd : Dats w (fun b => Up G H b ∧ b ≠ Dn) Hc acc ds := h4.mono fun b z => ⟨Up.up k1 r1 b z.1, z.2⟩
    exact q Hc ⟨k1.trans h2, h3, .list (.inr aH) h1 (dd.mono fun b z => z.1)⟩ ⟨Dn, rfl, aH, .inl ⟨acc, ds, rfl, h1, dd⟩⟩
end
end Os
end
section
set_option linter.all false
set_option maxRecDepth 100000
set_option maxHeartbeats 4000000
/-! OyD: sorted(.., key=f), f a def or a lambda of one parameter. -/
namespace Os
open PySem PySem.Spec PyProof.Rows L2 PySem.W NdefX

theorem noOwn (b : Addr) : ¬ Own2 (⟨none⟩ : GS []) b := by
  rintro (⟨a, c, e, _⟩ | z)
  · cases e
  · cases z
theorem src0 (H : Hp) : SrcR (⟨none⟩ : GS []) H none := ⟨trivial, fun p z => nomatch z⟩
theorem srcNone {H : Hp} {s : S1} (r : SrcR (⟨none⟩ : GS []) H s) : s = none := by
  have := r.1
  cases s with
  | none => rfl
  | some S => exact this.elim
theorem same_of {H H' : Hp} (k : Keep (⟨none⟩ : GS []) H H') : Same H H' := fun b o e => k b o e (noOwn b)

theorem keysRun_at {f : D → Option (D × S1)} : ∀ {xs ks : List D}, keysRun f xs = some ks → ks.length = xs.length ∧ ∀ (j : Nat) (x : D), xs[j]? = some x → ∃ k s, f x = some (k, s) ∧ ks[j]? = some k
  | [], _, h => by
    cases h
    exact ⟨rfl, fun j x e => by simp at e⟩
  | y :: ys, _, h => by
    rw [keysRun] at h
    obtain ⟨⟨k, s⟩, h1, h2⟩ := bind_some h
    obtain ⟨ks, h3, rfl⟩ := map_some h2
    obtain ⟨e1, e2⟩ := keysRun_at h3
    refine ⟨by simp [e1], fun j x e => ?_⟩
    cases j with
    | zero =>
      cases e
      exact ⟨k, s, h1, rfl⟩
    | succ j => exact e2 j x e
section
variable {X : Cx} {Φ : Fs} {gk : List (Str × D)} {k : Nat} {pins : List (Addr × Obj)} {σ : L2.St} {H H1 : Hp} {s : Shared} {T : List (Addr × Str)} {g : GS T} {G1 : Addr → Prop} {s1 : S1}
/-- the keys so far -/
def KW (w : World) (g : GS T) (G1 : Addr → Prop) (H1 : Hp) (s1 : S1) (ks : List D) : Nat → List V → Hp → Prop := fun j ws H' => Keep g H1 H' ∧ SrcR g H' s1 ∧ Dats w (Up G1 H1) H' ws (ks.take j)
theorem each_zip {α β γ : Type} {R : α → β → Prop} : ∀ {us : List α} {xs : List β} {ks : List γ}, EachIs R us xs → xs.length = ks.length → EachIs (fun u p => R u p.1) us (xs.zip ks)
  | _, _, [], .nil, _ => .nil
  | _, _, _ :: _, .nil, h => by simp at h
  | _, _, [], .cons _ _, h => by simp at h
  | _, _, _ :: _, .cons r t, h => .cons r (each_zip t (by simpa using h))
theorem each_map {α β γ : Type} {R : α → γ → Prop} {f : β → γ} : ∀ {us : List α} {l : List β}, EachIs (fun u p => R u (f p)) us l → EachIs R us (l.map f)
  | _, _, .nil => .nil
  | _, _, .cons r t => .cons r (each_map t)
theorem take_next {ks : List D} {j : Nat} {k : D} (h : ks[j]? = some k) : ks.take (j + 1) = ks.take j ++ [k] := by
  rw [List.take_add_one, h]
  rfl
theorem sort_core (C : XC X Φ gk k) (I : Inv X pins σ H1 s) (gok : ∀ b, G1 b → ¬ Own2 g b) (r1 : SrcR g H1 s1) {u : Value} {v : V} {x : D} {xs ks ys : List D} {fa : Addr} {Q : VK} (d1 : Dat X.w G1 H1 v x) (ru : L2.RelV v u) (hx : walkOf x = some xs) (hs : dSortBy xs ks = some ys)
    (turn : ∀ us vs, Vals vs us → Dats X.w G1 H1 vs xs → KeyTurn X pins σ (.ref fa) us (KW X.w g G1 H1 s1 ks))
    (q : ∀ a H' vs, Keep g H1 H' → SrcR g H' s1 → H' a = none → Dats X.w G1 H' vs ys → Q (.ref a) (upd H' a (.lst vs))) :
    wpAny (model X.prog X.w) X.A (call (.builtin "sorted") [u] [(Str.ofString "key", .ref fa)]) (EP X pins σ Q) X.xe s := by
  unfold dSortBy at hs
  split at hs
  · cases hs
    rename_i hc
    obtain ⟨hc, hz, hlen⟩ := hc
    have hso : Sorts ks ∧ (ks.all fun x => decide (x.depth ≤ 60)) = true := by
      rcases hc with hc | hc
      · unfold alikeL at hc
        rw [Bool.and_eq_true, Bool.and_eq_true] at hc
        obtain ⟨⟨ha, hsb⟩, hdp⟩ := hc
        refine ⟨.inl ⟨?_, ?_⟩, hdp⟩
        · intro d h1 d' h2
          rw [List.all_eq_true] at ha
          have := ha d h1
          rw [List.all_eq_true] at this
          exact this d' h2
        · rw [Bool.or_eq_true] at hsb
          rcases hsb with hsb | hsb
          · rw [List.all_eq_true] at hsb
            refine .inl fun d hd => ?_
            have := hsb d hd
            split at this
            · exact ⟨_, _, rfl⟩
            · cases this
          · rw [List.all_eq_true] at hsb
            refine .inr fun d hd => ?_
            have := hsb d hd
            split at this
            · cases this
            · cases this
            · rename_i h1 h2
              exact ⟨h1, fun xs => h2 xs⟩
      · unfold mixL at hc
        rw [Bool.and_eq_true, Bool.and_eq_true] at hc
        obtain ⟨⟨ha, hsb⟩, hdp⟩ := hc
        refine ⟨.inr ⟨?_, ?_⟩, hdp⟩
        · intro d h1 d' h2
          rw [List.all_eq_true] at ha
          have := ha d h1
          rw [List.all_eq_true] at this
          exact this d' h2
        · rw [List.all_eq_true] at hsb
          intro d hd
          have := hsb d hd
          split at this
          · exact ⟨_, _, rfl⟩
          · cases this
    obtain ⟨hso, hdp⟩ := hso
    have hu : ∀ d, d ∈ ks → X.A.in1.in1.units + d.depth < cLine := fun d hd => by
      rw [List.all_eq_true] at hdp
      have := of_decide_eq_true (hdp d hd)
      have := C.xr.un
      show X.A.units + 1 + 1 + PyData.depth d < cLine
      omega
    have hread : ∀ (n : Nat), n = xs.length → ∀ ws us H' s', Inv X pins σ H' s' → KW X.w g G1 H1 s1 ks n ws H' → Vals ws us → EachIs (fun u k => ∃ as, Reads s'.heap u k as) us ks := fun n hn ws us H' s' I' ⟨_, _, dw⟩ rv => by
      rw [List.take_of_length_le (by omega)] at dw
      exact (each_of dw rv).mono fun u b ⟨v, e1, e2⟩ => e2.reads I'.hok e1
    have w0 : KW X.w g G1 H1 s1 ks 0 [] H1 := ⟨Keep.refl, r1, .nil⟩
    have fin : ∀ (us : List Value) (vs : List V), Vals vs us → Dats X.w G1 H1 vs xs → us.length = xs.length → ∀ (s' : Shared) (a : Addr) (H' : Hp) (ws : List V) (out : List Value) (c : Nat), Inv X pins σ H' s' → FpOk X pins H' a → s'.heap.get? a = some (seqObj "list" (List.toArray out) c) → KW X.w g G1 H1 s1 ks us.length ws H' → KeyedM false ks us out →
        EP X pins σ Q (.ref a) s' := fun us vs rv dv hl s' a H' ws out c I' fa' ho ⟨kk, rr, _⟩ ko => by
      have dv' : Dats X.w G1 H' vs xs := dv.keep kk r1 gok
      have ek : (xs.zip ks).map Prod.snd = ks := by rw [List.map_snd_zip (by omega)]
      have e0 := each_zip (ks := ks) (each_of dv' rv) hlen
      have e1 := keyedM_each (bs := xs.zip ks) Prod.snd (by rw [ek]; exact ko) e0
      obtain ⟨zs, z1, z2⟩ := of_each (each_map (f := Prod.fst) (R := fun u d => ∃ v, L2.RelV v u ∧ Dat X.w G1 H' v d) e1)
      have hol : out.length ≤ sizeLine := by
        have := ko.length (by omega)
        omega
      have new : ObjOk X.prog X.w (upd H' a (.lst zs)) s'.heap a (.lst zs) := ⟨by rw [z1.length]; exact hol, out, c, z1, ho⟩
      exact ⟨.ref a, _, Inv.adopt I' fa' new, rfl, q a H' zs kk rr fa'.1 z2⟩
    cases d1 with
    | list ga e r =>
      cases hx
      cases ru
      obtain ⟨_, its, n, rv, eo⟩ := I.hok _ _ e
      have hl : its.length = xs.length := by rw [← rv.length, r.length]
      exact sorted_list (kz := ks) rfl I ⟨_, eo, rfl, n, rfl⟩ (by omega) (by omega) hso hu (turn _ _ rv r) w0 (hread _ hl) fun s' a H' ws out c _ i2 i3 i4 i5 i6 => fin its _ rv r hl s' a H' ws out c i2 i3 i4 i5 i6
    | @tup a o vs _ e nd r =>
      cases hx
      cases ru
      obtain ⟨eo, _, its, rv, o2, eo2, c2, n2, dd2⟩ := I.hok _ _ e
      have hl : its.length = xs.length := by rw [← rv.length, r.length]
      exact sorted_tuple (kz := ks) rfl eo2 c2 dd2 I (by omega) (by omega) hso hu (turn _ _ rv r) w0 (hread _ hl) fun s' a H' ws out c _ i2 i3 i4 i5 i6 => fin its _ rv r hl s' a H' ws out c i2 i3 i4 i5 i6
    | @dict a es kvs ga e rk rvv hk =>
      cases hx
      cases ru
      obtain ⟨xs', x, qx, hs2, hz2⟩ := de_of I.hok e ⟨rk, rvv, hk⟩
      obtain ⟨ds, ep, raw, he⟩ := x.raw
      have hl : (xs'.map (·.2.1)).length = (kvs.map (·.1)).length := by rw [← qx.uk.length, rk.length]
      have hsz := he.size
      have hl1 : ks.length = (xs'.map (·.2.1)).length := by rw [hl]; exact hlen.symm
      have hl2 : (xs'.map (·.2.1)).length ≤ sizeLine := by rw [hl]; exact hz
      refine sorted_dict (vs := xs'.map (·.2.1)) (kz := ks) rfl (PySem.KdlSrc.rawDict (es := ds) (ep := ep) hs2) (I.ok.hd C.calm) raw (by omega) (fun acc hacc => items_eq he hacc) I hl1 hl2 hso hu (turn _ _ qx.uk rk) w0 (hread _ hl)
        fun s' a H' ws out c _ i2 i3 i4 i5 i6 => fin (xs'.map (·.2.1)) _ qx.uk rk hl s' a H' ws out c i2 i3 i4 i5 i6
    | _ => cases hx
  · cases hs
theorem room_in2 {A : Around} (r : RoomG (k + 1) A) : RoomG k A.in1.in1 := by
  refine ⟨⟨r.r.hd, ?_, ?_⟩, r.gd⟩
  · have := r.r.dp
    show A.depth + 3 * k + 5 < _
    omega
  · have := r.r.un
    show A.units + 1 + 1 + 16 * k + 200 < _
    omega
theorem room_in3 {A : Around} (r : RoomG (k + 1) A) (env : Env) : RoomG k (A.in1.in1.deeper env) := by
  refine ⟨⟨r.r.hd, ?_, ?_⟩, r.gd⟩
  · have := r.r.dp
    show A.depth + 1 + 3 * k + 5 < _
    omega
  · have := r.r.un
    show A.units + 1 + 1 + 3 + 16 * k + 200 < _
    omega
/-- behind a key's call -/
theorem key_after {Q : VK} {u : Value} {s' : Shared} (I : Inv X pins σ H s) (h : CE X.stack X.prog X.w H s Q u s') : ∃ w H', Inv X pins σ H' s' ∧ Un (frs X.stack) [] H H' s.heap s'.heap ∧ L2.RelV w u ∧ Q w H' := by
  obtain ⟨v, H', os, bare, un, hok, r, q⟩ := h
  obtain ⟨hh, g, d, t, os'⟩ := s'
  obtain rfl : os' = s.os := os
  exact ⟨v, H', I.call (h' := hh) (g' := g) (d' := d) (t' := t) (ch := []) un hok bare (fun b z => absurd z (by simp)), un, r, q⟩
theorem key_run {Q : VK} {u : Value} {f : Addr} (I : Inv X pins σ H s) (h : codeAny (model X.prog X.w) X.A.in1.in1 (.call (.ref f) ⟨[u], []⟩) (CR CX0 X.stack X.prog X.w H s Q E0) s) :
    wpAny (model X.prog X.w) X.A.in1.in1 (call (.ref f) [u]) (fun u s' => ∃ w H', Inv X pins σ H' s' ∧ Un (frs X.stack) [] H H' s.heap s'.heap ∧ L2.RelV w u ∧ Q w H') (fun _ _ => False) s := by
  refine wpAny_call (codeAny_mono h fun res s' hq => ?_)
  cases res with
  | error e => exact False.elim hq
  | ok fl =>
    cases fl with
    | ret u => exact key_after I hq
    | next => exact False.elim hq
    | brk => exact False.elim hq
    | cont => exact False.elim hq
/-- one more key -/
theorem kw_next {ks : List D} {j : Nat} {ws : List V} {w : V} {kd : D} {H' : Hp} (hg : ∀ b, G1 b → ¬ Own2 g b) (r1 : SrcR g H1 s1) (h : KW X.w g (G1) H1 s1 ks j ws H) (hk : ks[j]? = some kd) (sm : Same H H') (d : Dat X.w (Up (Up G1 H1) H) H' w kd) : KW X.w g G1 H1 s1 ks (j + 1) (ws ++ [w]) H' := by
  obtain ⟨k1, r2, dw⟩ := h
  refine ⟨k1.trans (Keep.of sm), r2.same sm, ?_⟩
  rw [take_next hk]
  exact (dw.same sm).append (.cons (d.mono fun b z => Up.up k1 r2 b z) .nil)
/-- a def as key -/
theorem pure_at {l : List FE} {f : Nat} {F : FE} (h : (pureL l)[f]? = some F) : ∃ F0, l[f]? = some F0 ∧ F.name = F0.name ∧ F.ar = F0.ar ∧ ((F0.pure = true ∧ F = F0) ∨ F.sem = fun _ _ => none) := by
  unfold pureL at h
  rw [List.getElem?_map] at h
  obtain ⟨F0, h1, h2⟩ := Option.map_eq_some_iff.mp h
  refine ⟨F0, h1, ?_⟩
  split at h2
  · subst h2
    exact ⟨rfl, rfl, .inl ⟨by assumption, rfl⟩⟩
  · subst h2
    exact ⟨rfl, rfl, .inr rfl⟩
theorem key_def (C : XC X Φ gk k) {g : GS Φ.T} {F : FE} {f : Nat} {fa : Addr} {fd : FuncData} {ps : List Str} {xs ks : List D} (gok : ∀ b, G1 b → ¬ Own2 g b) (r1 : SrcR g H1 s1) (hf : (pureL Φ.l)[f]? = some F) (h1 : ∀ F0, Φ.l[f]? = some F0 → Binds X.K fd ps [] ∧ ps.length = F0.ar ∧ FnG X.prog X.w X.K X.mg X.base k fa fd ps (spF X.w Φ.T F0))
    (har : F.ar = 1) (hk : keysRun (fun y => F.sem [.d y] none) xs = some ks) (us : List Value) (vs : List V) (rv : Vals vs us) (dv : Dats X.w G1 H1 vs xs) : KeyTurn X pins σ (.ref fa) us (KW X.w g G1 H1 s1 ks) := by
  intro j u s H ws hj I hw
  obtain ⟨hl, hk2⟩ := keysRun_at hk
  have dv' : Dats X.w G1 H vs xs := dv.keep hw.1 r1 gok
  have hjl : j < xs.length := by
    have := (List.getElem?_eq_some_iff.mp hj).1
    rw [← rv.length, dv.length] at this
    exact this
  obtain ⟨v, hv, dx⟩ := dv'.get (List.getElem?_eq_getElem hjl)
  obtain ⟨u', hu', ru⟩ := rv.get hv
  rw [hj] at hu'
  cases hu'
  obtain ⟨kd, s', e1, e2⟩ := hk2 j _ (List.getElem?_eq_getElem hjl)
  obtain ⟨F0, f1, f2, f3, f4⟩ := pure_at hf
  obtain ⟨hb, hps, FG⟩ := h1 F0 f1
  rcases f4 with ⟨hp, rfl⟩ | z
  · have hbb := hb s [u] I.kIn (by rw [hps, har]; rfl)
    have up : ∀ v x, Dat X.w G1 H v x → Dat X.w (Up G1 H1) H v x := fun v x z => z.mono fun b q => .inl q
    refine key_run I (FG.go X.A.in1.in1 X.stack s H ⟨[u], []⟩ [u] [v] _ E0 (room_in2 C.rm) I.env0.in1.in1 hbb (.cons ru .nil) ?_)
    refine ⟨[], ⟨none⟩, Up G1 H1, [.d _], none, kd, s', .inl hp, fun b _ => noOwn b, src0 H, .cons (up _ _ dx) .nil, by rw [har]; rfl, e1, fun w H' p _ => ?_⟩
    exact kw_next gok r1 hw e2 (same_of p.keep) p.dat
  · simp only [z] at e1
    cases e1
theorem s_sortK (C : XC X Φ gk k) {a : Expr} {x : Str} {m : ME} (f : Nat) {F : FE} {p p2 kp pos : Pos} (hg : X.env.scope.names.lookup ("sorted" : Str) = some .globalImplicit) (hx : X.env.scope.names.lookup x = some .globalImplicit) (hf : (pureL Φ.l)[f]? = some F) (hn : F.name = x) (hd : (x == ("__debug__" : Str)) = false) (ha : Snd X Φ a m)
    (hs : ∀ (es : List Expr) (env : Env), starEach (a :: es) env = (false, eval a env) :: starEach es env) : Snd X Φ (.Call (.Name "sorted" p) [a] [⟨some "key", .Name x p2, kp⟩] pos) (.sortK f m) := by
  refine mkS ⟨fun pins s σ H Q I ⟨g, G, ρ, s0, d, s', E, ee, h⟩ => ?_⟩ fun _ => rfl
  rw [ev] at ee
  obtain ⟨⟨y, s1⟩, e1, e2⟩ := bind_some ee
  obtain ⟨xs, e3, e4⟩ := bind_some e2
  simp only [hf] at e4
  split at e4
  case isFalse => cases e4
  rename_i har
  obtain ⟨ks, e5, e6⟩ := bind_some e4
  obtain ⟨ys, e7, e8⟩ := map_some e6
  cases e8
  obtain ⟨F0, f1, f2, f3, f4⟩ := pure_at hf
  obtain ⟨fa, fd, ps, g1, g2, g3, g4, g5⟩ := C.fns F0 (List.mem_of_getElem? f1)
  rw [← f2, hn] at g1
  refine wpAny_Call_Name_kw (ld_blt I hg (C.bl "sorted" (by decide +kernel)) rfl ?_)
  have hA : PA X [a] (tCons (tE X.w Φ m) tNil) := pa_cons ha.pe pa_nil (hs _ _)
  have hB := hA.run pos pins s σ H (fun us H1 => ∃ v, us = [v] ∧ Dat X.w (Up G H) H1 v y ∧ Keep g H H1 ∧ SrcR g H1 s') I (one E e1 fun v H1 k1 r1 d1 => ⟨v, rfl, d1, k1, r1⟩)
  refine callWith_kw (thn hB fun us st1 ⟨ws, H1, I1, r2, v, ev', d1, k1, r1⟩ => kws_cons (ld_glob I1 hx g1 (kws_nil ?_) hd)) (by rw [hs]; rfl) (by rw [hs]; rfl)
  subst ev'
  obtain ⟨u, rfl, ru⟩ := vals1 r2
  have gk1 := Up.gok E.src E.gok
  refine sort_core C I1 gk1 r1 d1 ru e3 e7 (fun us vs rv dv => key_def C gk1 r1 hf (fun F1 z => by rw [f1] at z; cases z; exact ⟨g3, g4, g5⟩) har e5 us vs rv dv) fun a' H' zs kk rr ha' dz => ?_
  exact h _ _ (Ps.fin (k1.trans kk) rr (same_new ha') (Dat.newL ha' dz)) fun _ => NewL.fin (k1.trans kk) rr (NewL.mk ha' dz)
end
end Os
end
section
set_option linter.all false
set_option maxRecDepth 100000
set_option maxHeartbeats 4000000
/-! OyE: sorted(.., key=lambda x: ..). -/
namespace Os
open PySem PySem.Spec PyProof.Rows L2 PySem.W NdefX

section
variable {X : Cx} {Φ : Fs} {gk : List (Str × D)} {k : Nat} {pins : List (Addr × Obj)} {σ : L2.St} {H H1 : Hp} {s : Shared} {g : GS Φ.T} {G1 : Addr → Prop} {s1 : S1}
/-- a lambda made: the table alone may grow -/
theorem lam_new {T : List (Addr × Str)} {c P : Addr} {params : Arguments} {body : Expr} {scope : Scope} {pos : Pos} {E : Value → Shared → Prop} {Q : Value → Shared → Prop} (I : Inv X pins σ H s) (TB : LamX.TabB X.base X.mg c P) (hcode : X.env.code = .ref c) (hm : (P, X.env.qual ++ "<lambda>") ∈ T)
    (hu : ∀ p ∈ T, p.1 = P → p.2 = X.env.qual ++ "<lambda>") (hT : LamX.Tabs T H) (hdef : defaultsOf params X.env = ([], [])) (hfree : ∀ y ∈ scope.names, y.2 = .free → ∃ c, X.env.cells.lookup y.1 = some c)
    (h : ∀ (f cd : Addr) (pm ctv : Value) (Hn : Hp) (sn : Shared), Inv X pins σ Hn sn → (∀ b o, b ≠ P → H b = some o → Hn b = some o) → LamX.Tabs T Hn → sn.heap.get? f = some (kla_obj "<lambda>" (X.env.qual ++ "<lambda>") params body scope (cloFrom X.env.cells scope.names []) pm cd ctv) →
      Hn f = none → f ∉ frs X.stack → Hn cd = some (LamX.CodeO cd (X.env.qual ++ "<lambda>")) → Q (.ref f) sn) : wpAny (model X.prog X.w) X.A (eval (.Lambda params body scope pos) X.env) Q E s := by
  obtain ⟨ps, tP, tr, tc⟩ := hT _ hm
  have oP := I.hok P _ tP
  have cl := closure_ok hfree
  have gl := I.mod.glob.keeps I.bk
  have cdh := TB.code.keeps I.bk
  have blt : s.heap.BuiltinsAt X.mg P := TB.bm.keeps I.bk
  have away : ∀ b, s.heap.objs.size ≤ b → b ∉ frs X.stack := fun b hb z => by
    rcases List.mem_cons.mp (I.stkSub _ z) with e | e
    · exact absurd (Nat.lt_of_lt_of_le I.lt hb) (by rw [e]; exact Nat.lt_irrefl _)
    · exact I.nofs hb e
  refine kla_eval hdef ?_
  rcases hq : codeAmong pos ps.toList with _ | cv
  · refine kla_makeFunction (mg := X.mg) (c := c) (P := P) (ps := ps) cl I.ok.glob gl hcode cdh oP tr hq TB.gP blt fun cd ctv hp tk ext lo hi rec tab => ?_
    obtain ⟨cd2, ob, fl, t, z, q1, q2, q3⟩ := rec
    cases z
    have fresh : H cd = none := I.hok.fresh lo
    have big : s.heap.objs.size ≤ hp.objs.size := Nat.le_trans lo (Nat.le_of_lt hi)
    have pc : P ≠ cd := ne_of_none tP fresh
    have J := LamX.inv_table (t' := tk) (c := cd) (q := X.env.qual ++ "<lambda>") (more := #[rawInt pos.line, rawInt pos.col, .ref cd]) (h' := hp.push (kla_obj "<lambda>" (X.env.qual ++ "<lambda>") params body scope (cloFrom X.env.cells scope.names []) ((X.mg "__name__").getD .none) cd ctv)) I tP
      (fun b o nb e => Heap.get?_push_of_some _ (ext b o nb e)) (Heap.get?_push_of_some _ tab) lo ⟨ob, fl, t, Heap.get?_push_of_some _ q1, q2, q3⟩
    have rest : ∀ b o, b ≠ P → H b = some o → upd (upd H P (.tbl (ps ++ #[rawInt pos.line, rawInt pos.col, .ref cd]))) cd (LamX.CodeO cd (X.env.qual ++ "<lambda>")) b = some o := fun b o nb e => by
      rw [upd_ne (ne_of_none e fresh), upd_ne nb]
      exact e
    have codeKeep : ∀ b q, H b = some (LamX.CodeO b q) → upd (upd H P (.tbl (ps ++ #[rawInt pos.line, rawInt pos.col, .ref cd]))) cd (LamX.CodeO cd (X.env.qual ++ "<lambda>")) b = some (LamX.CodeO b q) := fun b q e => rest b _ (fun z => by
      rw [z, tP] at e
      exact LamX.codeO_ne _ (Option.some.inj e).symm) e
    have big2 : hp.objs.size ≠ P := fun z => absurd (Nat.lt_of_lt_of_le (Heap.lt_size oP) big) (by rw [z]; exact Nat.lt_irrefl _)
    refine h hp.objs.size cd _ ctv _ _ J rest (fun x hx => ?_) (Heap.get?_push_size _ rfl) ?_ (away _ big) upd_same
    · by_cases nb : x.1 = P
      · rw [hu x hx nb, nb]
        have et : (ps ++ #[rawInt pos.line, rawInt pos.col, .ref cd]).toList = ps.toList ++ [rawInt pos.line, rawInt pos.col, .ref cd] := by simp
        refine ⟨_, (upd_ne pc).trans upd_same, by rw [et]; exact PySem.TriplesOk_snoc _ _ _ _ tr, fun p2 v2 hv => ?_⟩
        rw [et] at hv
        rcases LamX.among_app _ tr hv with z | z
        · obtain ⟨c0, y1, y2⟩ := tc p2 v2 z
          exact ⟨c0, y1, codeKeep _ _ y2⟩
        · exact ⟨cd, z, upd_same⟩
      · obtain ⟨qs, y1, y2, y3⟩ := hT x hx
        refine ⟨qs, rest _ _ nb y1, y2, fun p2 v2 hv => ?_⟩
        obtain ⟨c0, y4, y5⟩ := y3 p2 v2 hv
        exact ⟨c0, y4, codeKeep _ _ y5⟩
    · rw [upd_ne (Nat.ne_of_gt hi), upd_ne big2]
      exact I.hok.fresh big
  · obtain ⟨cd, rfl, co⟩ := tc pos cv hq
    refine kla_makeFunctionHit (mg := X.mg) (c := c) (P := P) (ps := ps) cl I.ok.glob gl hcode cdh oP tr hq blt fun ctv hp tk ext big => ?_
    have J : Inv X pins σ H { s with heap := hp.push (kla_obj "<lambda>" (X.env.qual ++ "<lambda>") params body scope (cloFrom X.env.cells scope.names []) ((X.mg "__name__").getD .none) cd ctv), toks := tk } := I.kept fun b o e => Heap.get?_push_of_some _ (ext b o e)
    exact h hp.objs.size cd _ ctv H _ J (fun _ _ _ e => e) hT (Heap.get?_push_size _ rfl) (I.hok.fresh big) (away _ big) co
/-- the context of a lambda's body -/
theorem lam_xc (C : XC X Φ gk k) (hb : Φ.b = true) {N' : List Str} (nd : N'.Nodup) {F : NF} {f : Addr} : XC (ncx CX0 X.prog X.w X.K X.mg X.base N' F f X.A.in1.in1 X.stack s H E0) ⟨[], pureL Φ.l, false⟩ gk k where
  calm := rfl
  rm := room_in3 (C.lam hb).1 _
  nd := nd
  bl := C.bl
  fns := fun F hF => by
    obtain ⟨i, hi⟩ := List.mem_iff_getElem?.mp hF
    obtain ⟨F0, f1, f2, f3, f4⟩ := pure_at hi
    obtain ⟨fa, fd, ps, g1, g2, g3, g4, g5⟩ := C.fns F0 (List.mem_of_getElem? f1)
    refine ⟨fa, fd, ps, by rw [f2]; exact g1, g2, g3, g4.trans f3.symm, g5.imp fun vs H' Q E hq => ?_⟩
    rcases f4 with ⟨hp, rfl⟩ | z
    · obtain ⟨T', g', G, as, s', d, s2, _, r⟩ := hq
      exact ⟨T', g', G, as, s', d, s2, .inl hp, r⟩
    · obtain ⟨T', g', G, as, s', d, s2, _, _, _, _, _, r, _⟩ := hq
      simp only [z] at r
      cases r
  gks := C.gks
  lam := fun z => nomatch z
theorem startF_at {N' : List Str} {v : V} {ws : List (Option V)} : startF N' [v] ws = some v :: (ws ++ List.replicate (N'.length - 1 - ws.length) none) := rfl
/-- what the lambda sees -/
theorem lam_es {G : Addr → Prop} {ρ : LS} {s0 : S1} {w : World} {x : Str} {fr : List Str} {js : List Nat} {v : V} {y : D} (E : ES w g G σ H ρ s0) (dv : Dat w G H v y) (hl : js.length = fr.length) : ES w (⟨none⟩ : GS []) G (startF (x :: fr) [v] (js.map (slotAt σ))) H (.d y :: js.map (capt ρ)) none where
  gok := fun b _ => noOwn b
  src := src0 H
  env := fun i z e => by
    rw [startF_at]
    cases i with
    | zero =>
      cases e
      exact ⟨v, rfl, dv⟩
    | succ i =>
      rw [List.getElem?_cons_succ, List.getElem?_map] at e
      cases ej : js[i]? with
      | none =>
        rw [ej] at e
        cases e
      | some j =>
        rw [ej] at e
        have e' : capt ρ j = .d z := Option.some.inj e
        unfold capt at e'
        split at e'
        · cases e'
          rename_i hj
          obtain ⟨u, h1, h2⟩ := E.env j _ hj
          refine ⟨u, ?_, h2⟩
          rw [List.getElem?_cons_succ, List.getElem?_append_left (by rw [List.length_map]; exact (List.getElem?_eq_some_iff.mp ej).1), List.getElem?_map, ej]
          exact congrArg some (slotAt_of h1)
        · cases e'
  esrc := fun i e => by
    cases i with
    | zero => cases e
    | succ i =>
      rw [List.getElem?_cons_succ, List.getElem?_map] at e
      cases ej : js[i]? with
      | none =>
        rw [ej] at e
        cases e
      | some j =>
        rw [ej] at e
        have e' : capt ρ j = .src := Option.some.inj e
        unfold capt at e'
        split at e' <;> cases e'
  len := by
    rw [startF_at]
    simp [hl]
theorem key_lam (C : XC X Φ gk k) (hb : Φ.b = true) {ρ : LS} {f cd : Addr} {x : Str} {params : Arguments} {body : Expr} {scope : Scope} {fr : List Str} {js : List Nat} {n : ME} {pm ctv : Value} {xs ks : List D} (E : ES X.w g G1 σ H1 ρ s1)
    (S : NScope (x :: fr) [x] fr scope) (hfree : ∀ y ∈ scope.names, y.2 = .free → X.env.scope.names.lookup y.1 = some .cell ∨ X.env.scope.names.lookup y.1 = some .free) (hfr : ∀ y ∈ fr, (y, NameKind.free) ∈ scope.names) (hjs : js.map (fun j => X.N[j]?) = fr.map some)
    (hbind : ∀ (q : Str) (cl : List (Str × Addr)) (pm cv ctv u : Value), bindArgs (kla_fn "<lambda>" q params body scope cl pm cv ctv) ⟨[u], []⟩ = pure [(x, u)])
    (hbody : ∀ Y : Cx, XC Y ⟨[], pureL Φ.l, false⟩ gk k → Y.w = X.w → Y.N = x :: fr → Y.env.scope = scope → Snd Y ⟨[], pureL Φ.l, false⟩ body n)
    (hk : keysRun (fun y => ev (pureL Φ.l) n (.d y :: js.map (capt ρ)) none) xs = some ks) (hp : (f, kla_obj "<lambda>" (X.env.qual ++ "<lambda>") params body scope (cloFrom X.env.cells scope.names []) pm cd ctv) ∈ pins) (hcd : H1 cd = some (LamX.CodeO cd (X.env.qual ++ "<lambda>")))
    (us : List Value) (vs : List V) (rv : Vals vs us) (dv : Dats X.w G1 H1 vs xs) : KeyTurn X pins σ (.ref f) us (KW X.w g G1 H1 s1 ks) := by
  intro j u s H ws hj I hw
  obtain ⟨hl, hk2⟩ := keysRun_at hk
  have dv' : Dats X.w G1 H vs xs := dv.keep hw.1 E.src E.gok
  have hjl : j < xs.length := by
    have := (List.getElem?_eq_some_iff.mp hj).1
    rw [← rv.length, dv.length] at this
    exact this
  obtain ⟨v, hv, dx⟩ := dv'.get (List.getElem?_eq_getElem hjl)
  obtain ⟨u', hu', ru⟩ := rv.get hv
  rw [hj] at hu'
  cases hu'
  obtain ⟨kd, s', e1, e2⟩ := hk2 j _ (List.getElem?_eq_getElem hjl)
  have of1 := (I.pin _ (List.mem_append_right _ hp)).1
  have nO : ¬ Own2 g cd := by
    rintro (⟨a, c, z1, z2⟩ | z)
    · obtain ⟨S', _, r1, r2⟩ := E.src.1.at z1
      rcases z2 with z2 | z2
      · rw [z2, r1] at hcd
        cases hcd
      · rw [z2, r2] at hcd
        cases hcd
    · obtain ⟨qs, hq⟩ := tab_there E.src.2 z
      rw [hq] at hcd
      cases hcd
  have hcd' := hw.1 _ _ hcd nO
  obtain ⟨⟨oc, fl, t, hoc, hdc, hvc⟩, _, _⟩ := I.hok cd _ hcd'
  have hjl' : js.length = fr.length := by simpa using congrArg List.length hjs
  have CA : CellsAt (cloFrom X.env.cells scope.names []) fr (js.map (slotAt σ)) s.heap H := cells_of I (Caps.made I.ok hfree hfr hjs)
  have E' := E.step hw.1 hw.2.1
  have hr := (room_in2 (C.lam hb).1).r
  refine key_run I ?_
  refine kla_callFunE hr.depth of1 rfl S.co S.gen rfl ⟨cd, oc, fl, t, rfl, hoc, hdc, hvc⟩ ?_
  rw [hbind]
  refine wpAny_pure (wpAny_newFunctionEnv S.nocell (fun y hy => ?_) (fun h₁ hns hsb => ⟨I.nolimit.fresh _ hsb, ?_⟩) S.kind)
  · obtain rfl : y = (x, u) := by simpa using hy
    exact S.par x (by simp)
  show codeAny _ _ (.expr body (envF ⟨"<lambda>", X.env.qual ++ "<lambda>", params, [], scope, cloFrom X.env.cells scope.names [], cd⟩ f s.heap.objs.size)) _ _
  have kp : ∀ b o, s.heap.get? b = some o → h₁.get? b = some o := fun b o e => hsb.extBut b o (Nat.ne_of_lt (Heap.lt_size e)) (Heap.get?_push_of_some _ e)
  have J := inv_startN (CX := CX0) (P := X.prog) (w := X.w) (K := X.K) (mg := X.mg) (base := X.base) (N := x :: fr) (ps := [x]) (fr := fr) (F := ⟨"<lambda>", X.env.qual ++ "<lambda>", params, [], scope, cloFrom X.env.cells scope.names [], cd⟩) (f := f) (A := X.A.in1.in1) (outer := X.stack) (s := s) (H := H) (E := E0) (us := [u]) (vs := [v]) (ws := js.map (slotAt σ)) (h₁ := h₁) (tk := s.toks + [(x, u)].length)
    S hr.hd I.env0.in1.in1 rfl (.cons ru .nil) CA hns kp
  refine kla_codeExpr (wpAny_mono ((hbody _ (lam_xc C hb S.nd) rfl rfl rfl).pe.run [] _ _ H (fun w H' => KW X.w g G1 H1 s1 ks (j + 1) (ws ++ [w]) H') J ⟨⟨none⟩, Up G1 H1, _, none, kd, s', lam_es E' (dx.mono fun b z => .inl z) hjl', e1, fun w H' p _ => kw_next E.gok E.src hw e2 (same_of p.keep) p.dat⟩) (fun v s2 hq => ?_) fun e s2 hq => hq)
  obtain ⟨w', H', J', rw', q⟩ := hq
  exact ⟨w', H', J'.os, J'.bare, J'.base, J'.hok, rw', q⟩
theorem s_sortL (C : XC X Φ gk k) (hb : Φ.b = true) {N : List Str} {sc : Scope} (hN : X.N = N) (hsc : X.env.scope = sc) {a : Expr} {x : Str} {params : Arguments} {body : Expr} {scope : Scope} {fr : List Str} {js : List Nat} {m n : ME} {p lp kp pos : Pos} (hg : sc.names.lookup ("sorted" : Str) = some .globalImplicit) (ha : Snd X Φ a m)
    (hs : ∀ (es : List Expr) (env : Env), starEach (a :: es) env = (false, eval a env) :: starEach es env) (hS : nscB (x :: fr) [x] fr scope = true) (hF : lamFB sc scope fr = true) (hjs : js.map (fun j => N[j]?) = fr.map some) (hdef : ∀ env, defaultsOf params env = ([], []))
    (hbind : ∀ (q : Str) (cl : List (Str × Addr)) (pm cv ctv u : Value), bindArgs (kla_fn "<lambda>" q params body scope cl pm cv ctv) ⟨[u], []⟩ = pure [(x, u)])
    (hbody : ∀ Y : Cx, XC Y ⟨[], pureL Φ.l, false⟩ gk k → Y.w = X.w → Y.N = x :: fr → Y.env.scope = scope → Snd Y ⟨[], pureL Φ.l, false⟩ body n) : Snd X Φ (.Call (.Name "sorted" p) [a] [⟨some "key", .Lambda params body scope lp, kp⟩] pos) (.sortL m js n) := by
  subst hN hsc
  have S := nscope_by hS
  unfold lamFB at hF
  simp only [Bool.and_eq_true, List.all_eq_true, Bool.or_eq_true, Bool.not_eq_true', decide_eq_false_iff_not, decide_eq_true_eq] at hF
  obtain ⟨hF1, hfr⟩ := hF
  have hfree : ∀ y ∈ scope.names, y.2 = .free → X.env.scope.names.lookup y.1 = some .cell ∨ X.env.scope.names.lookup y.1 = some .free := fun y hy e => by
    rcases hF1 y hy with (z | z) | z
    · exact absurd e z
    · exact .inl z
    · exact .inr z
  refine mkS ⟨fun pins s σ H Q I ⟨g, G, ρ, s0, d, s', E, ee, h⟩ => ?_⟩ fun _ => rfl
  rw [ev] at ee
  obtain ⟨⟨y, s1⟩, e1, e2⟩ := bind_some ee
  obtain ⟨xs, e3, e4⟩ := bind_some e2
  obtain ⟨ks, e5, e6⟩ := bind_some e4
  obtain ⟨ys, e7, e8⟩ := map_some e6
  cases e8
  obtain ⟨_, c, P, c1, c2, c3, c4⟩ := C.lam hb
  refine wpAny_Call_Name_kw (ld_blt I hg (C.bl "sorted" (by decide +kernel)) rfl ?_)
  have hA : PA X [a] (tCons (tE X.w Φ m) tNil) := pa_cons ha.pe pa_nil (hs _ _)
  have hB := hA.run pos pins s σ H (fun us H1 => ∃ v, us = [v] ∧ Dat X.w (Up G H) H1 v y ∧ Keep g H H1 ∧ SrcR g H1 s') I (one E e1 fun v H1 k1 r1 d1 => ⟨v, rfl, d1, k1, r1⟩)
  refine callWith_kw (thn hB fun us st1 ⟨ws, H1, I1, r2, v, ev', d1, k1, r1⟩ => kws_cons ?_) (by rw [hs]; rfl) (by rw [hs]; rfl)
  subst ev'
  obtain ⟨u, rfl, ru⟩ := vals1 r2
  have hcel : ∀ y ∈ scope.names, y.2 = .free → ∃ c, X.env.cells.lookup y.1 = some c := fun y hy e => (hfree y hy e).elim (fun z => I1.ok.has _ (.inl z)) fun z => I1.ok.has _ (.inr z)
  refine lam_new I1 c2 c1 c3 c4 r1.2 (hdef _) hcel fun f cd pm ctv H2 s2 I2 ext tb of2 hf hfs hcd => kws_nil ?_
  have k2 : Keep g H1 H2 := fun b o e nb => ext b o (fun z => nb (by rw [z]; exact .inr (List.mem_map.mpr ⟨_, c3, rfl⟩))) e
  have nP : ∀ b o, H1 b = some o → (∀ ps, o ≠ .tbl ps) → b ≠ P := fun b o e hn z => by
    obtain ⟨ps, hq⟩ := tab_there r1.2 (List.mem_map.mpr ⟨_, c3, rfl⟩ : P ∈ Φ.T.map (·.1))
    rw [z, hq] at e
    exact hn ps (Option.some.inj e).symm
  have r2' : SrcR g H2 s' := by
    refine ⟨?_, tb⟩
    have z := r1.1
    unfold Src0 at z ⊢
    split at z
    · trivial
    · exact ⟨ext _ _ (nP _ _ z.1 fun _ w => nomatch w) z.1, ext _ _ (nP _ _ z.2 fun _ w => nomatch w) z.2⟩
    · exact z.elim
  have gk1 := Up.gok E.src E.gok
  have E2 := (E.step k1 r1).step k2 r2'
  have d2 : Dat X.w (Up G H) H2 v y := d1.keep k2 r1 gk1
  have E3 : ES X.w g (Up G H) σ H2 ρ s' := ⟨gk1, r2', fun i z e => by
    obtain ⟨v', h1, h2⟩ := E.env i z e
    exact ⟨v', h1, (((h2.keep k1 E.src E.gok).keep k2 r1 E.gok)).mono fun b hb => .inl hb⟩, E.esrc, E.len⟩
  have fin : ∀ (u' : Value) (s3 : Shared), EP X (pins ++ [(f, kla_obj "<lambda>" (X.env.qual ++ "<lambda>") params body scope (cloFrom X.env.cells scope.names []) pm cd ctv)]) σ Q u' s3 → EP X pins σ Q u' s3 := fun u' s3 ⟨v', H', I', a1, a2⟩ =>
    ⟨v', H', I'.pins_of fun p hp => I'.pin p (List.mem_append_right _ (List.mem_append_left _ hp)), a1, a2⟩
  have I3 : Inv X (pins ++ [(f, kla_obj "<lambda>" (X.env.qual ++ "<lambda>") params body scope (cloFrom X.env.cells scope.names []) pm cd ctv)]) σ H2 s2 := I2.pins_of fun p hp => by
    rcases List.mem_append.mp hp with z | z
    · exact I2.pin p (List.mem_append_right _ z)
    · obtain rfl := List.mem_singleton.mp z
      refine ⟨of2, hf, ?_, ?_, fun v z => nomatch z⟩
      · intro z
        obtain ⟨m', hn, _⟩ := I2.loc
        obtain ⟨o, es, ep, ho, ho2, _⟩ := hn
        have z' : f = X.env.locals := z
        rw [← z', of2] at ho
        obtain rfl := Option.some.inj ho
        cases ho2
      · intro z
        have z' : f ∈ frs X.outer := z
        refine hfs ?_
        rcases I2.ok.stk with e | ⟨e, _⟩
        · rw [e]
          exact z'
        · rw [e]
          obtain ⟨b, hb, eb⟩ := List.mem_filterMap.mp z'
          exact List.mem_filterMap.mpr ⟨b, List.mem_cons_of_mem _ hb, eb⟩
  refine wpAny_mono (sort_core C I3 gk1 r2' d2 ru e3 e7 (fun us vs rv dv => key_lam C hb E3 S hfree hfr hjs hbind hbody e5 (List.mem_append_right _ (List.mem_singleton.mpr rfl)) hcd us vs rv dv) fun a' H' zs kk rr ha' dz => ?_) (fun u' s3 z => fin u' s3 z) fun _ _ z => z
  have kA := (k1.trans k2).trans kk
  exact h _ _ (Ps.fin kA rr (same_new ha') (Dat.newL ha' dz)) fun _ => NewL.fin kA rr (NewL.mk ha' dz)
end
end Os
end
section
set_option linter.all false
set_option maxRecDepth 100000
set_option maxHeartbeats 4000000
/-! OsM: every expression of the small language, in a def of any context. -/
namespace Os
open PySem PySem.Spec PyProof.Rows L2

section
variable {X : Cx} {Φ : Fs} {gk : List (Str × D)} {k : Nat}
theorem lc_of {w : World} {K : PySem.W.Frag} {N : List Str} {fn : Str → Bool} {sc : Scope} {tg : Expr} {own : List (Str × Nat)} {me : ME} {t : MT} {it : MI} {fs : MEs} (ht : TrT N fn sc tg t) (hsl : (t.slots.all fun i => (own.map (·.2)).contains i) = true) {σ : L2.St} {H : Hp} {Q : VK}
    (h : tE w Φ (.comp me t it fs (own.map (·.2))) σ H Q) : tLc (tI (isTup tg) w Φ it) (gM K t) (tFs w Φ fs) (tE w Φ me) (own.map (·.2)) σ H Q := by
  obtain ⟨g, G, ρ, s, d, s', E, ee, q⟩ := h
  rw [ev] at ee
  obtain ⟨⟨xs, s1⟩, e1, e2⟩ := bind_some ee
  obtain ⟨⟨ys, s2⟩, e3, e4⟩ := bind_some e2
  dsimp only at e4
  split at e4
  · cases e4
    rename_i hz
    refine ⟨g, G, ρ, s, xs, s1, E, e1, fun J H1 k1 r1 hJ Dn hD => ?_⟩
    refine comp_run (fun h i z => ?_) (fun i hi => ?_) E k1 r1 hJ hD e3 hz fun H' p n => q _ _ p fun _ => n
    · subst z
      cases ht
      cases h
    · have := List.all_eq_true.mp hsl i hi
      simpa using this
  · cases e4
theorem s_comp (C : XC X Φ gk k) {N : List Str} {sc : Scope} (hN : X.N = N) (hsc : X.env.scope = sc) {elt tg iter : Expr} {ifs : List Expr} {scope : Scope} {own : List (Str × Nat)} {pos : Pos} {me : ME} {t : MT} {it : MI} {fs : MEs}
    (hb : blkC N sc scope own = true) (ht : TrT N (fun x => scope.names.lookup x == some .cell) (relS scope sc) tg t) (hsl : (t.slots.all fun i => (own.map (·.2)).contains i) = true)
    (hi : PI X tg iter (tI (isTup tg) X.w Φ it)) (hf : ∀ Y : Cx, XC Y Φ gk k → Y.N = N → Y.w = X.w → Y.env.scope = relS scope sc → PTs Y ifs (tFs Y.w Φ fs)) (he : ∀ Y : Cx, XC Y Φ gk k → Y.N = N → Y.w = X.w → Y.env.scope = relS scope sc → Snd Y Φ elt me)
    (hs : ∀ env x, foldedSetIterable iter env x = pure x) : Snd X Φ (.ListComp elt [⟨tg, iter, ifs, 0⟩] scope pos) (.comp me t it fs (own.map (·.2))) := by
  subst hN hsc
  have pg : ∀ (s : Shared) (H : Hp) (L : Addr) (cl : List (Str × Addr)) (fp : List Addr), PG (X.blk s H scope (compEnvC scope cl L X.env) fp) tg (gM X.K t) := fun s H L cl fp =>
    pg_ok (X := X.blk s H scope (compEnvC scope cl L X.env) fp) C.calm C.nd ht
  have pel : ∀ (s : Shared) (H : Hp) (L : Addr) (cl : List (Str × Addr)) (fp : List Addr), PE (X.blk s H scope (compEnvC scope cl L X.env) fp) elt (tE X.w Φ me) := fun s H L cl fp => (he (X.blk s H scope (compEnvC scope cl L X.env) fp) C.blk rfl rfl rfl).pe
  have ptl : ∀ (s : Shared) (H : Hp) (L : Addr) (cl : List (Str × Addr)) (fp : List Addr), PTs (X.blk s H scope (compEnvC scope cl L X.env) fp) ifs (tFs X.w Φ fs) := fun s H L cl fp => hf (X.blk s H scope (compEnvC scope cl L X.env) fp) C.blk rfl rfl rfl
  refine mkS (pe_weak (pe_lc C.calm C.nd hi (blkOk_by hb) pg ptl pel (hs _)) fun σ H Q q => lc_of ht hsl q) fun _ => rfl
end

mutual
theorem snd {l : List FE} {lb : Bool} {gk : List (Str × D)} {k : Nat} {N : List Str} {sc : Scope} {e : Expr} {m : ME} : TrE l gk lb N sc e m → ∀ (X : Cx) (Φ : Fs), Φ.l = l → Φ.b = lb → XC X Φ gk k → X.N = N → X.env.scope = sc → Snd X Φ e m
  | .nm h1 h2 h3 h4, X, Φ, hl, hb, C, hN, hs => s_nm (by rw [hN]; exact h1) (by rw [hs]; exact h2) h3 h4
  | .gl h1 h2 h3 h4, X, Φ, hl, hb, C, hN, hs => s_gl C (by rw [hs]; exact h1) h2 h3 h4
  | .inG a h1 h2 h3, X, Φ, hl, hb, C, hN, hs => s_inG C (snd a X Φ hl hb C hN hs) (by rw [hs]; exact h1) h2 h3
  | .ci, X, Φ, hl, hb, C, hN, hs => s_k pe_int rfl fun _ => rfl
  | .cb, X, Φ, hl, hb, C, hN, hs => s_k pe_bl rfl fun _ => rfl
  | .cn, X, Φ, hl, hb, C, hN, hs => s_k pe_non trivial fun _ => rfl
  | .cs, X, Φ, hl, hb, C, hN, hs => s_k pe_str rfl fun _ => rfl
  | .tup h, X, Φ, hl, hb, C, hN, hs => s_tup (sndEs h X Φ hl hb C hN hs)
  | .lst h, X, Φ, hl, hb, C, hN, hs => s_lst (sndEs h X Φ hl hb C hN hs)
  | .op o a b, X, Φ, hl, hb, C, hN, hs => s_op o (snd a X Φ hl hb C hN hs) (snd b X Φ hl hb C hN hs)
  | .catL a b, X, Φ, hl, hb, C, hN, hs => s_catL (snd a X Φ hl hb C hN hs) (snd b X Φ hl hb C hN hs)
  | .sll a lo hi, X, Φ, hl, hb, C, hN, hs => s_sll (snd a X Φ hl hb C hN hs) (sndO lo X Φ hl hb C hN hs) (sndO hi X Φ hl hb C hN hs)
  | .up a h1 h2, X, Φ, hl, hb, C, hN, hs => s_up C (snd a X Φ hl hb C hN hs) h1 h2
  | .neg a, X, Φ, hl, hb, C, hN, hs => s_neg (snd a X Φ hl hb C hN hs)
  | .cmp o a b h, X, Φ, hl, hb, C, hN, hs => s_cmp C o (snd a X Φ hl hb C hN hs) (snd b X Φ hl hb C hN hs) h
  | .isN a, X, Φ, hl, hb, C, hN, hs => s_isN (snd a X Φ hl hb C hN hs)
  | .notN a, X, Φ, hl, hb, C, hN, hs => s_notN (snd a X Φ hl hb C hN hs)
  | .chn o q a b c h, X, Φ, hl, hb, C, hN, hs => s_chn C o q (snd a X Φ hl hb C hN hs) (snd b X Φ hl hb C hN hs) (snd c X Φ hl hb C hN hs) h
  | .bo h, X, Φ, hl, hb, C, hN, hs => s_bo (sndB h X Φ hl hb C hN hs)
  | .not_ a, X, Φ, hl, hb, C, hN, hs => s_not (snd a X Φ hl hb C hN hs)
  | .ite c a b, X, Φ, hl, hb, C, hN, hs => s_ite (snd c X Φ hl hb C hN hs) (snd a X Φ hl hb C hN hs) (snd b X Φ hl hb C hN hs)
  | .idx a i h, X, Φ, hl, hb, C, hN, hs => s_idx C (snd a X Φ hl hb C hN hs) (snd i X Φ hl hb C hN hs) h
  | .slc a lo hi, X, Φ, hl, hb, C, hN, hs => s_slc (snd a X Φ hl hb C hN hs) (sndO lo X Φ hl hb C hN hs) (sndO hi X Φ hl hb C hN hs)
  | .revl a, X, Φ, hl, hb, C, hN, hs => s_revl (snd a X Φ hl hb C hN hs)
  | .call f h1 h2 h3 h4 h5, X, Φ, hl, hb, C, hN, hs => s_call C f (by rw [hs]; exact h1) (by rw [hl]; exact h2) h3 h4 (sndA h5 X Φ hl hb C hN hs)
  | .b1 f h1 a, X, Φ, hl, hb, C, hN, hs => s_b1 C f (by rw [hs]; exact h1) (snd a X Φ hl hb C hN hs) a.ns
  | .b2 f h1 a b, X, Φ, hl, hb, C, hN, hs => s_b2 C f (by rw [hs]; exact h1) (snd a X Φ hl hb C hN hs) (snd b X Φ hl hb C hN hs) a.ns b.ns
  | .isi t h1 h2 a, X, Φ, hl, hb, C, hN, hs => s_isi C t (by rw [hs]; exact h1) (by rw [hs]; exact h2) (snd a X Φ hl hb C hN hs) a.ns
  | .m1 f o a h1 h2, X, Φ, hl, hb, C, hN, hs => s_m1 C f (snd o X Φ hl hb C hN hs) (snd a X Φ hl hb C hN hs) a.ns h1 h2
  | .m2 f o a b h1 h2, X, Φ, hl, hb, C, hN, hs => s_m2 C f (snd o X Φ hl hb C hN hs) (snd a X Φ hl hb C hN hs) (snd b X Φ hl hb C hN hs) a.ns b.ns h1 h2
  | .bad _, X, Φ, hl, hb, C, hN, hs => s_bad
  | .isB a, X, Φ, hl, hb, C, hN, hs => s_isB (snd a X Φ hl hb C hN hs)
  | .notB a, X, Φ, hl, hb, C, hN, hs => s_notB (snd a X Φ hl hb C hN hs)
  | .sset h1 h2 a, X, Φ, hl, hb, C, hN, hs => s_sset C (by rw [hs]; exact h1) (by rw [hs]; exact h2) (snd a X Φ hl hb C hN hs) a.ns
  | .dict0, X, Φ, hl, hb, C, hN, hs => s_dict0 C
  | .sortK f h1 h2 h3 h4 h5 a, X, Φ, hl, hb, C, hN, hs => s_sortK C f (by rw [hs]; exact h1) (by rw [hs]; exact h2) (by rw [hl]; exact h3) h4 h5 (snd a X Φ hl hb C hN hs) a.ns
  | .sortL h1 a h2 h3 h4 h5 h6 b, X, Φ, hl, hb, C, hN, hs => s_sortL C hb hN hs h1 (snd a X Φ hl hb C hN hs) a.ns h2 h3 h4 h5 h6 fun Y CY _ eN es => snd b Y _ (by rw [hl]) rfl CY eN es
  | .comp hbl ht hsl hi hf he hse, X, Φ, hl, hb, C, hN, hs => s_comp C hN hs hbl ht hsl (sndI hi X Φ hl hb C hN hs _ rfl) (fun Y CY eN ew es => sndF hf Y Φ hl hb CY eN es) (fun Y CY eN ew es => snd he Y Φ hl hb CY eN es) hse
theorem sndB {l : List FE} {lb : Bool} {gk : List (Str × D)} {k : Nat} {N : List Str} {sc : Scope} {o : BoolOp} {es : List Expr} {m : ME} : TrB l gk lb N sc o es m → ∀ (X : Cx) (Φ : Fs), Φ.l = l → Φ.b = lb → XC X Φ gk k → X.N = N → X.env.scope = sc → SndB X Φ o es m
  | .one a, X, Φ, hl, hb, C, hN, hs => b_one (snd a X Φ hl hb C hN hs)
  | .cons a r, X, Φ, hl, hb, C, hN, hs => b_cons (snd a X Φ hl hb C hN hs) (sndB r X Φ hl hb C hN hs)
theorem sndEs {l : List FE} {lb : Bool} {gk : List (Str × D)} {k : Nat} {N : List Str} {sc : Scope} {es : List Expr} {ms : MEs} : TrEs l gk lb N sc es ms → ∀ (X : Cx) (Φ : Fs), Φ.l = l → Φ.b = lb → XC X Φ gk k → X.N = N → X.env.scope = sc → PA X es (tEs X.w Φ ms)
  | .nil, X, Φ, hl, hb, C, hN, hs => p_nil
  | .cons e r, X, Φ, hl, hb, C, hN, hs => p_cons (snd e X Φ hl hb C hN hs) e.ns (sndEs r X Φ hl hb C hN hs)
  | .star e r, X, Φ, hl, hb, C, hN, hs => p_star (snd e X Φ hl hb C hN hs) (sndEs r X Φ hl hb C hN hs)
theorem sndA {l : List FE} {lb : Bool} {gk : List (Str × D)} {k : Nat} {N : List Str} {sc : Scope} {es : List Expr} {ms : MAs} : TrA l gk lb N sc es ms → ∀ (X : Cx) (Φ : Fs), Φ.l = l → Φ.b = lb → XC X Φ gk k → X.N = N → X.env.scope = sc → ArgOk X Φ es ms
  | .nil, X, Φ, hl, hb, C, hN, hs => ⟨q_nil, (fun _ y h => nomatch h), (fun _ _ h => nomatch h), fun _ => rfl⟩
  | .cons e r, X, Φ, hl, hb, C, hN, hs => by
    have R := sndA r X Φ hl hb C hN hs
    refine ⟨q_cons (snd e X Φ hl hb C hN hs) e.ns R.pa, fun env y h => ?_, fun a b h env => ?_, fun h => nomatch h⟩
    · rw [e.ns] at h
      rcases List.mem_cons.mp h with z | z
      · rw [z]
      · exact R.plain env y z
    · cases h
      exact e.ns _ _
  | .src h1 h2 h3 h4 r, X, Φ, hl, hb, C, hN, hs => by
    have R := sndA r X Φ hl hb C hN hs
    refine ⟨q_src (by rw [hN]; exact h1) (by rw [hs]; exact h2) h3 h4 R.pa, fun env y h => ?_, fun a b h env => ?_, fun h => nomatch h⟩
    · have h' : y = (false, _) ∨ y ∈ starEach _ env := List.mem_cons.mp h
      rcases h' with z | z
      · rw [z]
      · exact R.plain env y z
    · cases h
      rfl
theorem sndF {l : List FE} {lb : Bool} {gk : List (Str × D)} {k : Nat} {N : List Str} {sc : Scope} {es : List Expr} {ms : MEs} : TrF l gk lb N sc es ms → ∀ (X : Cx) (Φ : Fs), Φ.l = l → Φ.b = lb → XC X Φ gk k → X.N = N → X.env.scope = sc → PTs X es (tFs X.w Φ ms)
  | .nil, X, Φ, hl, hb, C, hN, hs => ⟨fun pins s σ H Q I ⟨g, G, ρ, t, b, s', E, ee, q⟩ => by
    cases ee
    exact pts_nil.run pins s σ H Q I (q H Keep.refl E.src)⟩
  | .one e, X, Φ, hl, hb, C, hN, hs => ⟨fun pins s σ H Q I ⟨g, G, ρ, t, b, s', E, ee, q⟩ => by
    rw [evt] at ee
    obtain ⟨⟨x, s1⟩, e1, e2⟩ := bind_some ee
    obtain ⟨y, e3, e4⟩ := bind_some e2
    refine (pts_one (snd e X Φ hl hb C hN hs).pt).run pins s σ H Q I ⟨g, G, ρ, t, x, s1, y, E, e1, e3, fun H' k' r' => ?_⟩
    cases y with
    | true =>
      cases e4
      exact q H' k' r'
    | false =>
      cases e4
      exact q H' k' r'⟩
theorem sndO {l : List FE} {lb : Bool} {gk : List (Str × D)} {k : Nat} {N : List Str} {sc : Scope} {e : Option Expr} {m : MO} : TrO l gk lb N sc e m → ∀ (X : Cx) (Φ : Fs), Φ.l = l → Φ.b = lb → XC X Φ gk k → X.N = N → X.env.scope = sc → PO X e (tMO X.w Φ m)
  | .no, X, Φ, hl, hb, C, hN, hs => o_no
  | .yes e, X, Φ, hl, hb, C, hN, hs => o_yes (snd e X Φ hl hb C hN hs)
theorem sndI {l : List FE} {lb : Bool} {gk : List (Str × D)} {k : Nat} {N : List Str} {sc : Scope} {b : Bool} {e : Expr} {m : MI} : TrI l gk lb N sc b e m → ∀ (X : Cx) (Φ : Fs), Φ.l = l → Φ.b = lb → XC X Φ gk k → X.N = N → X.env.scope = sc → ∀ tg : Expr, isTup tg = b → PI X tg e (tI b X.w Φ m)
  | .seq e, X, Φ, hl, hb, C, hN, hs => fun tg h => i_seq (snd e X Φ hl hb C hN hs)
  | .range1 h1 e, X, Φ, hl, hb, C, hN, hs => fun tg h => i_range1 C (by rw [hs]; exact h1) (snd e X Φ hl hb C hN hs) e.ns
  | .range2 h1 e f, X, Φ, hl, hb, C, hN, hs => fun tg h => i_range2 C (by rw [hs]; exact h1) (snd e X Φ hl hb C hN hs) (snd f X Φ hl hb C hN hs) e.ns f.ns
  | .enum h1 e, X, Φ, hl, hb, C, hN, hs => fun tg h => by
    cases tg with
    | Tuple => exact i_enum C (by rw [hs]; exact h1) (snd e X Φ hl hb C hN hs) e.ns
    | _ => cases h
  | .zip h1 e f, X, Φ, hl, hb, C, hN, hs => fun tg h => by
    cases tg with
    | Tuple => exact i_zip C (by rw [hs]; exact h1) (snd e X Φ hl hb C hN hs) (snd f X Φ hl hb C hN hs) e.ns f.ns
    | _ => cases h
  | .items e h1 h2, X, Φ, hl, hb, C, hN, hs => fun tg h => i_none fun ρ s => by rw [evi]
  | .values e h1 h2, X, Φ, hl, hb, C, hN, hs => fun tg h => i_none fun ρ s => by rw [evi]
end
end Os
end
section
set_option linter.all false
set_option maxRecDepth 100000
set_option maxHeartbeats 4000000
/-! OsN: statements of the small language, as data, and what they do. No Python and no heap here. -/
namespace Os
open PySem PySem.Spec PyProof.Rows L2

/-- what a slot holds: nothing known; data that stays; a list or dict of its own; a list of such; a pair whose second is a list of its own; the source -/
inductive SS where
  | un | frz (x : D) | own (d : D) | own2 (ds : List D) | pr (d : D) (xs : List D) | src
  deriving Inhabited
abbrev LSS := List SS
def SS.f : SS → SL
  | .frz x => .d x
  | .src => .src
  | _ => .un
def SS.r : SS → SL
  | .frz x => .d x
  | .own d => .d d
  | .own2 ds => .d (.list ds)
  | .pr d xs => .d (.tuple [d, .list xs])
  | .src => .src
  | .un => .un
/-- what has no list in it -/
def SS.m : SS → SL
  | .frz x => if imm x = true then .d x else .un
  | .src => .src
  | _ => .un
/-- f: of what stays; i: of anything, no list in it; o: of what stays, a new list; p: of anything, a new list, no list in it; q: a new list of new lists -/
inductive Mode where
  | f | i | o | p | q | n | t
  deriving DecidableEq
def vw : Mode → LSS → LS
  | .f, ρ => ρ.map SS.f
  | .i, ρ => ρ.map SS.r
  | .o, ρ => ρ.map SS.f
  | .p, ρ => ρ.map SS.r
  | .q, ρ => ρ.map SS.f
  | .n, ρ => ρ.map SS.r
  | .t, ρ => ρ.map SS.m
/-- no list, no dict within -/
def immC : D → Bool
  | .list xs => immAll xs
  | .dict kvs => immAll (kvs.map (·.1)) && immAll (kvs.map (·.2))
  | _ => false
def allNew (Φ : List FE) : MEs → Bool
  | .nil => true
  | .cons e r => newE Φ e && allNew Φ r
  | .star _ _ => false
def slotOf (Φ : List FE) : Mode → ME → D → Option SS
  | .f, _, d => some (.frz d)
  | .i, _, d => if imm d = true then some (.frz d) else none
  | .o, e, d => if newE Φ e = true then some (.own d) else none
  | .p, e, d => if newE Φ e = true ∧ immC d = true then some (.own d) else none
  | .q, .lst es, d => if allNew Φ es = true then match d with
    | .list ds => some (.own2 ds)
    | _ => none else none
  | .q, _, _ => none
  | .n, e, d => if newE Φ e = true ∧ immC d = true then some (.frz d) else none
  | .t, _, d => match d with
    | .tuple [d0, .list xs] => if imm d0 = true ∧ immAll xs = true then some (.pr d0 xs) else none
    | _ => none
def evM (Φ : List FE) (md : Mode) (e : ME) (ρ : LSS) (s : S1) : Option (SS × S1) := (ev Φ e (vw md ρ) s).bind fun (d, s1) => (slotOf Φ md e d).map fun x => (x, s1)

mutual
inductive MS where
  | set (i : Nat) (md : Mode) (e : ME)
  | par2 (i j : Nat) (m1 m2 : Mode) (e1 e2 : ME)
  | unp (t : MT) (md : Mode) (e : ME)
  | app (i : Nat) (md : Mode) (e : ME)
  | ret (e : ME)
  | retO (i : Nat)
  | ite (c : ME) (a b : MSs)
  | for_ (t : MT) (it : MI) (b : MSs)
  | brk
  | cnt
  | pass
  | bad
  | drop (e : ME)
  | spoil (i j : Nat)
  | frz (i : Nat)
  /-- x += list -/
  | ext (i : Nat) (e : ME)
  /-- n += e, n -= e -/
  | aug (i : Nat) (sb : Bool) (e : ME)
  /-- xs[k] = v -/
  | lput (i : Nat) (md : Mode) (k v : ME)
  /-- while c: .. -/
  | wh (c : ME) (b : MSs)
  /-- x, y, .. = a, b, .. -/
  | par (is : List Nat) (mds : List Mode) (es : MEs)
  /-- d[k] = v -/
  | dput (i : Nat) (md : Mode) (k v : ME)
  /-- ds[a][k] = v -/
  | dput2 (i : Nat) (md : Mode) (a k v : ME)
  /-- xs = [[] for y in ..] -/
  | news (i j : Nat) (it : MI)
  /-- xs[k].append(e) -/
  | app2 (i : Nat) (md : Mode) (k e : ME)
  /-- xs.extend(e), e a tuple -/
  | extT (i : Nat) (e : ME)
  /-- xs[k], y = e -/
  | unpL (i j : Nat) (md : Mode) (k e : ME)
  /-- x[1].append(e), x a pair -/
  | appT (i : Nat) (md : Mode) (e : ME)
  /-- for t in xs[k], xs a list of its own -/
  | forO (t : MT) (i : Nat) (k : ME) (b : MSs)
inductive MSs where
  | nil
  | cons (m : MS) (r : MSs)
end
inductive Res where
  | nx (ρ : LSS) (s : S1)
  | bk (ρ : LSS) (s : S1)
  | ct (ρ : LSS) (s : S1)
  | rt (d : D) (s : S1)

/-- a target's slots -/
def bindS : MT → D → LSS → Option LSS
  | .nm i, x, ρ => if i < ρ.length then some (ρ.set i (.frz x)) else none
  | .two a b, x, ρ => match x with
    | .tuple [p, q] => (bindS a p ρ).bind (bindS b q)
    | _ => none
  | .three a b c, x, ρ => match x with
    | .tuple [p, q, r] => ((bindS a p ρ).bind (bindS b q)).bind (bindS c r)
    | _ => none
  | .four a b c d, x, ρ => match x with
    | .tuple [p, q, r, t] => (((bindS a p ρ).bind (bindS b q)).bind (bindS c r)).bind (bindS d t)
    | _ => none
  | .sixL a b c d e f, x, ρ => match x with
    | .list [p, q, r, t, u, v] => (((((bindS a p ρ).bind (bindS b q)).bind (bindS c r)).bind (bindS d t)).bind (bindS e u)).bind (bindS f v)
    | _ => none

def shortL : D → Bool
  | .list xs => decide (xs.length < sizeLine)
  | _ => false
def forRun (f : LSS → S1 → Option Res) (t : MT) : List D → LSS → S1 → Option Res
  | [], ρ, s => some (.nx ρ s)
  | x :: xs, ρ, s => (bindS t x ρ).bind fun ρ1 => (f ρ1 s).bind fun r => match r with
    | .nx ρ2 s2 => forRun f t xs ρ2 s2
    | .ct ρ2 s2 => forRun f t xs ρ2 s2
    | .bk ρ2 s2 => some (.nx ρ2 s2)
    | .rt d s2 => some (.rt d s2)

/-- turns of a while, at most so many -/
def whRun (c : LSS → S1 → Option (Bool × S1)) (f : LSS → S1 → Option Res) : Nat → LSS → S1 → Option Res
  | 0, _, _ => none
  | n + 1, ρ, s => (c ρ s).bind fun (b, s1) => if b = true then (f ρ s1).bind fun r => match r with
      | .nx ρ2 s2 => whRun c f n ρ2 s2
      | .ct ρ2 s2 => whRun c f n ρ2 s2
      | .bk ρ2 s2 => some (.nx ρ2 s2)
      | .rt d s2 => some (.rt d s2)
    else some (.nx ρ s1)
def evP (Φ : List FE) : List Mode → MEs → LSS → S1 → Option (List SS × S1)
  | [], .nil, _, s => some ([], s)
  | md :: mds, .cons e r, ρ, s => (evM Φ md e ρ s).bind fun (x, s1) => (evP Φ mds r ρ s1).map fun (xs, s2) => (x :: xs, s2)
  | _, _, _, _ => none
def setAll {α : Type} : List Nat → List α → List α → List α
  | i :: is, x :: xs, ρ => setAll is xs (ρ.set i x)
  | _, _, ρ => ρ
mutual
def run (Φ : List FE) : MS → LSS → S1 → Option Res
  | .set i md e, ρ, s => (evM Φ md e ρ s).bind fun (x, s1) => if i < ρ.length then some (.nx (ρ.set i x) s1) else none
  | .par2 i j m1 m2 e1 e2, ρ, s => (evM Φ m1 e1 ρ s).bind fun (x, s1) => (evM Φ m2 e2 ρ s1).bind fun (y, s2) => if i < ρ.length ∧ j < ρ.length ∧ i ≠ j then some (.nx ((ρ.set i x).set j y) s2) else none
  | .unp t md e, ρ, s => (evM Φ md e ρ s).bind fun (x, s1) => match x with
    | .frz d => (bindS t d ρ).map fun ρ1 => .nx ρ1 s1
    | _ => none
  | .app i md e, ρ, s => match ρ[i]? with
    | some (.own (.list xs)) => (evM Φ md e ρ s).bind fun (x, s1) => match x with
      | .frz d => if xs.length < sizeLine then some (.nx (ρ.set i (.own (.list (xs ++ [d])))) s1) else none
      | _ => none
    | _ => none
  | .ret e, ρ, s => (ev Φ e (ρ.map SS.r) s).map fun (d, s1) => .rt d s1
  | .retO i, ρ, s => match ρ[i]? with
    | some (.own d) => some (.rt d s)
    | _ => none
  | .ite c a b, ρ, s => (ev Φ c (ρ.map SS.r) s).bind fun (x, s1) => (tru x).bind fun t => if t = true then runs Φ a ρ s1 else runs Φ b ρ s1
  | .for_ t it b, ρ, s => (evi Φ it (ρ.map SS.f) s).bind fun (xs, s1) => forRun (runs Φ b) t xs ρ s1
  | .wh c b, ρ, s => whRun (fun ρ s => (ev Φ c (ρ.map SS.r) s).bind fun (x, s1) => (tru x).map fun t => (t, s1)) (runs Φ b) 100000 ρ s
  | .par is mds es, ρ, s => (evP Φ mds es ρ s).bind fun (xs, s1) => if xs.length = is.length ∧ is.Nodup ∧ (is.all fun i => decide (i < ρ.length)) = true then some (.nx (setAll is xs ρ) s1) else none
  | .brk, ρ, s => some (.bk ρ s)
  | .cnt, ρ, s => some (.ct ρ s)
  | .pass, ρ, s => some (.nx ρ s)
  | .bad, _, _ => none
  | .drop e, ρ, s => (ev Φ e (ρ.map SS.r) s).map fun (_, s1) => .nx ρ s1
  | .spoil i j, ρ, s => match ρ[i]? with
    | some (.own2 ds) => if (ds.all shortL) = true ∧ i ≠ j ∧ j < ρ.length then some (.nx ((ρ.set i .un).set j .un) s) else none
    | _ => none
  | .frz i, ρ, s => match ρ[i]? with
    | some (.own d) => some (.nx (ρ.set i (.frz d)) s)
    | some (.own2 ds) => some (.nx (ρ.set i (.frz (.list ds))) s)
    | _ => none
  | .ext i e, ρ, s => match ρ[i]? with
    | some (.own (.list xs)) => (ev Φ e (ρ.map SS.f) s).bind fun (y, s1) => match y with
      | .list ys => if xs.length + ys.length ≤ sizeLine then some (.nx (ρ.set i (.own (.list (xs ++ ys)))) s1) else none
      | _ => none
    | _ => none
  | .aug i sb e, ρ, s => match ρ[i]? with
    | some (.frz (.int a)) => (ev Φ e (ρ.map SS.r) s).bind fun (y, s1) => match y with
      | .int b => some (.nx (ρ.set i (.frz (.int (if sb = true then a - b else a + b)))) s1)
      | _ => none
    | _ => none
  | .lput i md k v, ρ, s => (evM Φ md v ρ s).bind fun (x, s1) => (ev Φ k (ρ.map SS.r) s1).bind fun (y, s2) => match ρ[i]?, x, y with
    | some (.own (.list xs)), .frz d, .int j => (ixN xs.length j).map fun n => .nx (ρ.set i (.own (.list (xs.set n d)))) s2
    | _, _, _ => none
  | .dput i md k v, ρ, s => (evM Φ md v ρ s).bind fun (x, s1) => (evM Φ .i k ρ s1).bind fun (y, s2) => match ρ[i]?, x, y with
    | some (.own (.dict kvs)), .frz d, .frz kd => (keyD kd).bind fun kk => if kvs.length < sizeLine then some (.nx (ρ.set i (.own (.dict (kvPut kvs kk kd d)))) s2) else none
    | _, _, _ => none
  | .dput2 i md a k v, ρ, s => (evM Φ md v ρ s).bind fun (x, s1) => (ev Φ a (ρ.map SS.r) s1).bind fun (z, s2) => (evM Φ .i k ρ s2).bind fun (y, s3) => match ρ[i]?, x, z, y with
    | some (.own2 ds), .frz d, .int j, .frz kd => (keyD kd).bind fun kk => (ixN ds.length j).bind fun n => match ds[n]? with
      | some (.dict kvs) => if kvs.length < sizeLine then some (.nx (ρ.set i (.own2 (ds.set n (.dict (kvPut kvs kk kd d))))) s3) else none
      | _ => none
    | _, _, _, _ => none
  | .news i j it, ρ, s => (evi Φ it (ρ.map SS.r) s).bind fun (xs, s1) => if xs.length ≤ sizeLine ∧ i < ρ.length then some (.nx (ρ.set i (.own2 (List.replicate xs.length (.list [])))) s1) else none
  | .app2 i md k e, ρ, s => (ev Φ k (ρ.map SS.r) s).bind fun (y, s1) => (evM Φ md e ρ s1).bind fun (x, s2) => match ρ[i]?, y, x with
    | some (.own2 ds), .int j, .frz d => (ixN ds.length j).bind fun n => match ds[n]? with
      | some (.list xs) => if xs.length < sizeLine then some (.nx (ρ.set i (.own2 (ds.set n (.list (xs ++ [d]))))) s2) else none
      | _ => none
    | _, _, _ => none
  | .extT i e, ρ, s => match ρ[i]? with
    | some (.own (.list xs)) => (ev Φ e (ρ.map SS.f) s).bind fun (y, s1) => match y with
      | .tuple ys => if xs.length + ys.length ≤ sizeLine then some (.nx (ρ.set i (.own (.list (xs ++ ys)))) s1) else none
      | _ => none
    | _ => none
  | .unpL i j md k e, ρ, s => (evM Φ md e ρ s).bind fun (x, s1) => (ev Φ k (ρ.map SS.r) s1).bind fun (y, s2) => match ρ[i]?, x, y with
    | some (.own (.list xs)), .frz (.tuple [p, q]), .int m => (ixN xs.length m).bind fun n => if j < ρ.length ∧ i ≠ j then some (.nx ((ρ.set i (.own (.list (xs.set n p)))).set j (.frz q)) s2) else none
    | _, _, _ => none
  | .appT i md e, ρ, s => match ρ[i]? with
    | some (.pr d0 xs) => (evM Φ md e ρ s).bind fun (x, s1) => match x with
      | .frz d => if xs.length < sizeLine then some (.nx (ρ.set i (.pr d0 (xs ++ [d]))) s1) else none
      | _ => none
    | _ => none
  | .forO t i k b, ρ, s => match ρ[i]? with
    | some (.own (.list xs)) => (ev Φ k (ρ.map SS.r) s).bind fun (y, s1) => match y with
      | .int j => (ixN xs.length j).bind fun n => match xs[n]? with
        | some (.list ys) => forRun (runs Φ b) t ys ρ s1
        | _ => none
      | _ => none
    | _ => none
def runs (Φ : List FE) : MSs → LSS → S1 → Option Res
  | .nil, ρ, s => some (.nx ρ s)
  | .cons m r, ρ, s => (run Φ m ρ s).bind fun x => match x with
    | .nx ρ1 s1 => runs Φ r ρ1 s1
    | x => some x
end

mutual
/-- what is returned is always a new list -/
def newM (Φ : List FE) : MS → Bool
  | .ret e => newE Φ e
  | .ite _ a b => newMs Φ a && newMs Φ b
  | .for_ _ _ b => newMs Φ b
  | .forO _ _ _ b => newMs Φ b
  | .wh _ b => newMs Φ b
  | _ => true
def newMs (Φ : List FE) : MSs → Bool
  | .nil => true
  | .cons m r => newM Φ m && newMs Φ r
end

/-- a def by its statements: n slots, the arguments first -/
def argS : SL → SS
  | .un => .un
  | .d x => .frz x
  | .src => .src
def semOf (Φ : List FE) (fr : Bool) (n : Nat) (ms : MSs) : FS := fun as s => (runs Φ ms (as.map argS ++ List.replicate (n - as.length) .un) s).bind fun r => match r with
  | .rt d s1 => some (d, s1)
  | .nx _ s1 => if fr = true then none else some (.none, s1)
  | _ => none
end Os
end
section
set_option linter.all false
set_option maxRecDepth 100000
set_option maxHeartbeats 4000000
/-! OsO: a def's state while its body runs. -/
namespace Os
open PySem PySem.Spec PyProof.Rows L2

/-- a list or a dict of its own -/
def OwnAt (w : World) (G : Addr → Prop) (H : Hp) (p : Addr) (d : D) : Prop := (∃ (vs : List V) (ds : List D), d = .list ds ∧ H p = some (.lst vs) ∧ Dats w G H vs ds) ∨ ∃ es kvs, d = .dict kvs ∧ H p = some (dO w p es) ∧ DKV w G H es kvs
theorem OwnAt.go {w : World} {G G' : Addr → Prop} {H H1 : Hp} {p : Addr} {d : D} (h : OwnAt w G H p d) (k : ∀ u, H p = some u → H1 p = some u) (kd : ∀ v d, Dats w G H v d → Dats w G' H1 v d) : OwnAt w G' H1 p d := by
  rcases h with ⟨vs, ds, e, h1, h2⟩ | ⟨es, kvs, e, h1, h2⟩
  · exact .inl ⟨vs, ds, e, k _ h1, kd _ _ h2⟩
  · exact .inr ⟨es, kvs, e, k _ h1, h2.go kd⟩
theorem OwnAt.dat {w : World} {G : Addr → Prop} {H : Hp} {p : Addr} {d : D} (h : OwnAt w G H p d) (g : G p) : Dat w G H (.ref p) d := by
  rcases h with ⟨vs, ds, rfl, h1, h2⟩ | ⟨es, kvs, rfl, h1, h2⟩
  · exact .list g h1 h2
  · exact Dat.ofD g h1 h2
theorem OwnAt.mono {w : World} {G G' : Addr → Prop} {H : Hp} {p : Addr} {d : D} (h : OwnAt w G H p d) (f : ∀ b, G b → G' b) : OwnAt w G' H p d := h.go (fun _ e => e) fun v d z => z.mono f
theorem OwnAt.live {w : World} {G : Addr → Prop} {H : Hp} {p : Addr} {d : D} (h : OwnAt w G H p d) : OwnAt w (fun b => G b ∧ H b ≠ none) H p d := h.go (fun _ e => e) fun v d z => z.live
theorem dO_ne {w : World} {p : Addr} {es : Es} {q : Str} : dO w p es ≠ LamX.CodeO p q := fun z => by
  have hz : ∀ h : Heap, (∃ (oc : Obj) (vs : Array Value) (t : Tok), h.get? p = some oc ∧ oc.data = .fields vs ∧ vs[1]? = some (.str q t)) → ∃ (o : Obj) (ds : Array DictEntry) (ep : Nat), h.get? p = some o ∧ o.data = .dict ds ep := fun h c => by
    unfold dO LamX.CodeO at z
    have := congrFun (HO.ext.inj z) h
    obtain ⟨_, _, o, ds, ep, e1, _, e2, _⟩ := (cast this.symm c)
    exact ⟨o, ds, ep, e1, e2⟩
  obtain ⟨o, ds, ep, e1, e2⟩ := hz { objs := Array.replicate (p + 1) { cls := .none, data := .fields #[.none, .str q 0] } } ⟨{ cls := .none, data := .fields #[.none, .str q 0] }, _, 0, by simp [Heap.get?], rfl, rfl⟩
  simp [Heap.get?] at e1
  subst e1
  cases e2
theorem OwnAt.some {w : World} {G : Addr → Prop} {H : Hp} {p : Addr} {d : D} (h : OwnAt w G H p d) : H p ≠ none := by
  rcases h with ⟨vs, ds, e, h1, h2⟩ | ⟨es, kvs, e, h1, h2⟩ <;> (rw [h1]; exact fun z => nomatch z)
theorem OwnAt.notup {w : World} {G : Addr → Prop} {H : Hp} {p : Addr} {d : D} (h : OwnAt w G H p d) : ∀ o xs, H p ≠ Option.some (.frz o (.tup xs)) := fun o xs z => by
  rcases h with ⟨vs, ds, e, h1, h2⟩ | ⟨es, kvs, e, h1, h2⟩ <;> (rw [h1] at z; cases z)
theorem OwnAt.nocode {w : World} {G : Addr → Prop} {H : Hp} {p : Addr} {d : D} (h : OwnAt w G H p d) : NoCode H p := fun q z => by
  rcases h with ⟨vs, ds, e, h1, h2⟩ | ⟨es, kvs, e, h1, h2⟩
  · exact noCode_lst h1 q z
  · rw [h1] at z
    exact dO_ne (Option.some.inj z)
def SlotR (w : World) (g : GS T) (F : Addr → Prop) (H : Hp) (as : List Addr) (o : Option (Option V)) : SS → Prop
  | .un => True
  | .frz d => ∃ v, o = some (some v) ∧ Dat w F H v d
  | .own d => ∃ a, as = [a] ∧ o = some (some (.ref a)) ∧ OwnAt w F H a d
  | .own2 ds => ∃ a ps, as = a :: ps ∧ (a :: ps).Nodup ∧ o = some (some (.ref a)) ∧ H a = some (.lst (ps.map V.ref)) ∧ Paired (fun p d => OwnAt w F H p d) ps ds
  | .pr d xs => ∃ a q ob x, as = [q] ∧ o = some (some (.ref a)) ∧ H a = some (.frz ob (.tup [x, .ref q])) ∧ ob.dict = Option.none ∧ Dat w F H x d ∧ OwnAt w F H q (.list xs)
  | .src => ∃ a c, g.src = some (a, c) ∧ o = some (some (.ref a))

structure SR (w : World) (g : GS T) (G0 : Addr → Prop) (H0 : Hp) (F : Addr → Prop) (A : Nat → List Addr) (σ : L2.St) (H : Hp) (ρ : LSS) (s : S1) : Prop where
  src0 : ∃ s0, SrcR g H0 s0
  sub : ∀ b, F b → Up G0 H0 b
  gok : ∀ b, F b → ¬ Own2 g b
  keep : Keep g H0 H
  src : SrcR g H s
  len : ρ.length = σ.length
  slot : ∀ i x, ρ[i]? = some x → SlotR w g F H (A i) σ[i]? x
  new : ∀ i, ∀ b ∈ A i, H0 b = none ∧ ¬ F b
  dis : ∀ i j b, b ∈ A i → b ∈ A j → i = j
  alive : ∀ i, ∀ b ∈ A i, H b ≠ none
  fl : ∀ b, F b → H b ≠ none

section
variable {w : World} {g : GS T} {G0 : Addr → Prop} {H0 : Hp} {F F1 : Addr → Prop} {A : Nat → List Addr} {σ τ : L2.St} {H H1 H2 : Hp} {ρ π : LSS} {s s1 s2 : S1}
theorem SR.nown (E : SR w g G0 H0 F A σ H ρ s) {i : Nat} {b : Addr} (h : b ∈ A i) : ¬ Own2 g b := fun z => by
  obtain ⟨s0, r⟩ := E.src0
  exact r.there z (E.new i b h).1
theorem Paired.imp {α β : Type} {R R' : α → β → Prop} (f : ∀ a b, R a b → R' a b) : ∀ {l : List α} {m : List β}, Paired R l m → Paired R' l m
  | _, _, .nil => .nil
  | _, _, .cons r t => .cons (f _ _ r) (Paired.imp f t)
theorem Paired.impM {α β : Type} {R R' : α → β → Prop} : ∀ {l : List α} {m : List β}, (∀ a ∈ l, ∀ b, R a b → R' a b) → Paired R l m → Paired R' l m
  | _, _, f, .nil => .nil
  | _, _, f, .cons r t => .cons (f _ List.mem_cons_self _ r) (Paired.impM (fun a h b => f a (List.mem_cons_of_mem _ h) b) t)
/-- the same slots over another heap that holds what they hang on -/
theorem SlotR.go {F' : Addr → Prop} {as : List Addr} {o : Option (Option V)} {x : SS} (h : SlotR w g F H as o x) (ka : ∀ b ∈ as, ∀ u, H b = some u → H1 b = some u) (kd : ∀ v d, Dat w F H v d → Dat w F' H1 v d) (kds : ∀ v d, Dats w F H v d → Dats w F' H1 v d) (kt : ∀ b o xs, H b = some (.frz o (.tup xs)) → H1 b = some (.frz o (.tup xs))) : SlotR w g F' H1 as o x := by
  cases x with
  | un => exact trivial
  | frz d =>
    obtain ⟨v, h1, h2⟩ := h
    exact ⟨v, h1, kd _ _ h2⟩
  | own d =>
    obtain ⟨a, h1, h2, h3⟩ := h
    exact ⟨a, h1, h2, h3.go (ka _ (by rw [h1]; exact List.mem_singleton.mpr rfl)) kds⟩
  | own2 ds =>
    obtain ⟨a, ps, h1, hn, h2, h3, h4⟩ := h
    exact ⟨a, ps, h1, hn, h2, ka _ (by rw [h1]; exact List.mem_cons_self) _ h3, Paired.impM (fun p hp d q => q.go (ka _ (by rw [h1]; exact List.mem_cons_of_mem _ hp)) kds) h4⟩
  | pr d xs =>
    obtain ⟨a, q, ob, x, h1, h2, h3, h4, h5, h6⟩ := h
    exact ⟨a, q, ob, x, h1, h2, kt _ _ _ h3, h4, kd _ _ h5, h6.go (ka _ (by rw [h1]; exact List.mem_singleton.mpr rfl)) kds⟩
  | src => exact h
theorem SR.kgt (E : SR w g G0 H0 F A σ H ρ s) (k : Keep g H H1) : ∀ b o xs, H b = some (.frz o (.tup xs)) → H1 b = some (.frz o (.tup xs)) := (KeepG.of E.gok E.src k).2
theorem SR.step (E : SR w g G0 H0 F A σ H ρ s) (k : Keep g H H1) (r : SrcR g H1 s1) : SR w g G0 H0 F A σ H1 ρ s1 :=
  ⟨E.src0, E.sub, E.gok, E.keep.trans k, r, E.len, fun i x e => (E.slot i x e).go (fun b hb u q => k b u q (E.nown hb)) (fun v d q => q.keep k E.src E.gok) (fun v d q => q.keep k E.src E.gok) (E.kgt k), E.new, E.dis, fun i b hb e => E.alive i b hb (k.alive r e), fun b hb e => E.fl b hb (k.alive r e)⟩
/-- more stays -/
theorem SR.more (E : SR w g G0 H0 F A σ H ρ s) (h1 : ∀ b, F b → F1 b) (h2 : ∀ b, F1 b → Up G0 H0 b ∧ ¬ Own2 g b ∧ H b ≠ none ∧ ∀ i, b ∉ A i) : SR w g G0 H0 F1 A σ H ρ s :=
  ⟨E.src0, fun b z => (h2 b z).1, fun b z => (h2 b z).2.1, E.keep, E.src, E.len, fun i x e => (E.slot i x e).go (fun _ _ _ q => q) (fun v d q => q.mono h1) (fun v d q => q.mono h1) (fun _ _ _ q => q), fun i b hb => ⟨(E.new i b hb).1, fun z => (h2 b z).2.2.2 i hb⟩, E.dis, E.alive, fun b z => (h2 b z).2.2.1⟩
theorem SR.up {b : Addr} (E : SR w g G0 H0 F A σ H ρ s) (h : Up F H b) : Up G0 H0 b := h.elim (E.sub b) fun e => .inr (E.keep.alive E.src e)
theorem SR.grow (E : SR w g G0 H0 F A σ H ρ s) (k : Keep g H H1) (r : SrcR g H1 s1) (P : Addr → Prop) : SR w g G0 H0 (fun b => F b ∨ (H b = none ∧ H1 b ≠ none ∧ P b)) A σ H1 ρ s1 :=
  (E.step k r).more (fun b z => .inl z) fun b z => z.elim (fun z => ⟨E.sub b z, E.gok b z, fun e => E.fl b z (k.alive r e), fun i hb => (E.new i b hb).2 z⟩) fun z => ⟨E.up (.inr z.1), fun o => E.src.there o z.1, z.2.1, fun i hb => E.alive i b hb z.1⟩
theorem SR.kg (E : SR w g G0 H0 F A σ H ρ s) (k : Keep g H H1) : KeepG F H H1 := KeepG.of E.gok E.src k
theorem SR.esF (E : SR w g G0 H0 F A (σ ++ τ) H (ρ ++ π) s) (hl : ρ.length = σ.length) : ES w g F σ H (ρ.map SS.f) s where
  gok := E.gok
  src := E.src
  env := fun i x e => by
    rw [List.getElem?_map] at e
    obtain ⟨y, e1, e2⟩ := map_some e
    have hi : i < ρ.length := (List.getElem?_eq_some_iff.mp e1).1
    have q := E.slot i y (by rw [List.getElem?_append_left hi]; exact e1)
    rw [List.getElem?_append_left (by omega)] at q
    cases y <;> simp [SS.f] at e2
    subst e2
    exact q
  esrc := fun i e => by
    rw [List.getElem?_map] at e
    obtain ⟨y, e1, e2⟩ := map_some e
    have hi : i < ρ.length := (List.getElem?_eq_some_iff.mp e1).1
    have q := E.slot i y (by rw [List.getElem?_append_left hi]; exact e1)
    rw [List.getElem?_append_left (by omega)] at q
    cases y <;> simp [SS.f] at e2
    exact q
  len := by rw [List.length_map]; exact hl
theorem SR.esM (E : SR w g G0 H0 F A (σ ++ τ) H (ρ ++ π) s) (hl : ρ.length = σ.length) : ES w g (fun _ => False) σ H (ρ.map SS.m) s where
  gok := fun b z => z.elim
  src := E.src
  env := fun i x e => by
    rw [List.getElem?_map] at e
    obtain ⟨y, e1, e2⟩ := map_some e
    have hi : i < ρ.length := (List.getElem?_eq_some_iff.mp e1).1
    have q := E.slot i y (by rw [List.getElem?_append_left hi]; exact e1)
    rw [List.getElem?_append_left (by omega)] at q
    cases y <;> simp only [SS.m] at e2 <;> try cases e2
    rename_i z
    split at e2
    · rename_i hi2
      cases e2
      obtain ⟨v, h1, h2⟩ := q
      exact ⟨v, h1, Dat.imm (fun _ _ _ e => e) h2 hi2⟩
    · cases e2
  esrc := fun i e => by
    rw [List.getElem?_map] at e
    obtain ⟨y, e1, e2⟩ := map_some e
    have hi : i < ρ.length := (List.getElem?_eq_some_iff.mp e1).1
    have q := E.slot i y (by rw [List.getElem?_append_left hi]; exact e1)
    rw [List.getElem?_append_left (by omega)] at q
    cases y <;> simp only [SS.m] at e2 <;> try cases e2
    · split at e2 <;> cases e2
    · exact q
  len := by rw [List.length_map]; exact hl
/-- what may be read: what stays, and the slots' own -/
def FA (F : Addr → Prop) (A : Nat → List Addr) : Addr → Prop := fun b => F b ∨ ∃ i, b ∈ A i
theorem SlotR.read {as : List Addr} {o : Option (Option V)} {x : SS} {d : D} {G : Addr → Prop} (h : SlotR w g F H as o x) (hd : SS.r x = .d d) (hF : ∀ b, F b → G b) (hA : ∀ b ∈ as, G b) : ∃ v, o = some (some v) ∧ Dat w G H v d := by
  cases x with
  | un => cases hd
  | frz d =>
    cases hd
    obtain ⟨v, h1, h2⟩ := h
    exact ⟨v, h1, h2.mono hF⟩
  | own d =>
    cases hd
    obtain ⟨a, h1, h2, h3⟩ := h
    exact ⟨_, h2, (h3.mono hF).dat (hA a (by rw [h1]; exact List.mem_singleton.mpr rfl))⟩
  | own2 ds =>
    cases hd
    obtain ⟨a, ps, h1, hn, h2, h3, h4⟩ := h
    refine ⟨_, h2, .list (hA a (by rw [h1]; exact List.mem_cons_self)) h3 ?_⟩
    have hps : ∀ p ∈ ps, G p := fun p hp => hA p (by rw [h1]; exact List.mem_cons_of_mem _ hp)
    clear h1 hn h2 h3
    induction h4 with
    | nil => exact .nil
    | cons r _ ih =>
      exact .cons ((r.mono hF).dat (hps _ List.mem_cons_self)) (ih fun p hp => hps p (List.mem_cons_of_mem _ hp))
  | pr d0 xs =>
    cases hd
    obtain ⟨a, q, ob, x, h1, h2, h3, h4, h5, h6⟩ := h
    exact ⟨_, h2, .tup h3 h4 (.cons (h5.mono hF) (.cons ((h6.mono hF).dat (hA q (by rw [h1]; exact List.mem_singleton.mpr rfl))) .nil))⟩
  | src => cases hd
theorem SR.esR (E : SR w g G0 H0 F A (σ ++ τ) H (ρ ++ π) s) (hl : ρ.length = σ.length) : ES w g (FA F A) σ H (ρ.map SS.r) s where
  gok := fun b z => z.elim (E.gok b) fun ⟨i, hb⟩ => E.nown hb
  src := E.src
  env := fun i x e => by
    rw [List.getElem?_map] at e
    obtain ⟨y, e1, e2⟩ := map_some e
    have hi : i < ρ.length := (List.getElem?_eq_some_iff.mp e1).1
    have q := E.slot i y (by rw [List.getElem?_append_left hi]; exact e1)
    rw [List.getElem?_append_left (by omega)] at q
    exact q.read e2 (fun b z => .inl z) fun b z => .inr ⟨i, z⟩
  esrc := fun i e => by
    rw [List.getElem?_map] at e
    obtain ⟨y, e1, e2⟩ := map_some e
    have hi : i < ρ.length := (List.getElem?_eq_some_iff.mp e1).1
    have q := E.slot i y (by rw [List.getElem?_append_left hi]; exact e1)
    rw [List.getElem?_append_left (by omega)] at q
    cases y <;> simp [SS.r] at e2
    exact q
  len := by rw [List.length_map]; exact hl
/-- one more slot -/
theorem SR.push (E : SR w g G0 H0 F A σ H ρ s) {v : V} {x : SS} {as : List Addr} (h : SlotR w g F H as (some (some v)) x) (ha : ∀ b ∈ as, H0 b = none ∧ ¬ F b ∧ H b ≠ none ∧ ∀ i, b ∉ A i) : ∃ A', SR w g G0 H0 F A' (σ ++ [some v]) H (ρ ++ [x]) s := by
  refine ⟨fun i => if i < σ.length then A i else if i = σ.length then as else [], E.src0, E.sub, E.gok, E.keep, E.src, by simp [E.len], fun i y e => ?_, fun i b hb => ?_, fun i j b h1 h2 => ?_, fun i b hb => ?_, E.fl⟩
  · by_cases hi : i < σ.length
    · rw [List.getElem?_append_left (by rw [E.len]; exact hi)] at e
      simp only [hi, if_true]
      rw [List.getElem?_append_left hi]
      exact E.slot i y e
    · by_cases hj : i = σ.length
      · subst hj
        rw [← E.len, List.getElem?_append_right (Nat.le_refl _), Nat.sub_self] at e
        simp only [Nat.lt_irrefl, if_false, if_true]
        rw [List.getElem?_append_right (Nat.le_refl _), Nat.sub_self]
        cases e
        exact h
      · rw [List.getElem?_eq_none (by rw [List.length_append, E.len, List.length_singleton]; omega)] at e
        cases e
  · by_cases hi : i < σ.length
    · simp only [hi, if_true] at hb
      exact E.new i b hb
    · simp only [hi, if_false] at hb
      split at hb
      · exact ⟨(ha b hb).1, (ha b hb).2.1⟩
      · cases hb
  · by_cases hi : i < σ.length
    · simp only [hi, if_true] at h1
      by_cases hj : j < σ.length
      · simp only [hj, if_true] at h2
        exact E.dis i j b h1 h2
      · simp only [hj, if_false] at h2
        split at h2
        · exact absurd h1 ((ha b h2).2.2.2 i)
        · cases h2
    · simp only [hi, if_false] at h1
      split at h1
      · by_cases hj : j < σ.length
        · simp only [hj, if_true] at h2
          exact absurd h2 ((ha b h1).2.2.2 j)
        · simp only [hj, if_false] at h2
          split at h2
          · omega
          · cases h2
      · cases h1
  · by_cases hi : i < σ.length
    · simp only [hi, if_true] at hb
      exact E.alive i b hb
    · simp only [hi, if_false] at hb
      split at hb
      · exact (ha b hb).2.2.1
      · cases hb
/-- the slot behind the first n goes to i -/
theorem SR.move {v : V} {x : SS} {i : Nat} (E : SR w g G0 H0 F A (σ ++ some v :: τ) H (ρ ++ x :: π) s) (hl : ρ.length = σ.length) (hi : i < ρ.length) : ∃ A', SR w g G0 H0 F A' (σ.set i (some v) ++ τ) H (ρ.set i x ++ π) s := by
  have fj : ∀ j, ∃ k, (fun j => if j = i then σ.length else if j < σ.length then j else j + 1) j = k := fun j => ⟨_, rfl⟩
  have get : ∀ {α : Type} (l : List α) (r : List α) (y : α) (j : Nat), l.length = σ.length → (l.set i y ++ r)[j]? = (l ++ y :: r)[if j = i then σ.length else if j < σ.length then j else j + 1]? := by
    intro α l r y j hl'
    by_cases h1 : j = i
    · subst h1
      rw [if_pos rfl, List.getElem?_append_left (by rw [List.length_set]; omega), List.getElem?_set_self (by omega), List.getElem?_append_right (by omega)]
      simp [hl']
    · rw [if_neg h1]
      by_cases h2 : j < σ.length
      · rw [if_pos h2, List.getElem?_append_left (by rw [List.length_set]; omega), List.getElem?_set_ne (Ne.symm h1), List.getElem?_append_left (by omega)]
      · rw [if_neg h2, List.getElem?_append_right (by rw [List.length_set]; omega), List.length_set, List.getElem?_append_right (by omega), show j + 1 - l.length = (j - l.length) + 1 by omega, List.getElem?_cons_succ]
  have inj : ∀ j k, (if j = i then σ.length else if j < σ.length then j else j + 1) = (if k = i then σ.length else if k < σ.length then k else k + 1) → j = k := by
    intro j k h
    split at h <;> split at h <;> (try split at h) <;> (try split at h) <;> omega
  refine ⟨fun j => A (if j = i then σ.length else if j < σ.length then j else j + 1), E.src0, E.sub, E.gok, E.keep, E.src, ?_, fun j y e => ?_, fun j b hb => E.new _ b hb, fun j k b h1 h2 => inj j k (E.dis _ _ b h1 h2), fun j b hb => E.alive _ b hb, E.fl⟩
  · have := E.len
    simp only [List.length_append, List.length_set, List.length_cons] at this ⊢
    omega
  · rw [get ρ π x j hl] at e
    rw [get σ τ (some v) j rfl]
    exact E.slot _ y e
/-- a slot holds what stays -/
theorem SR.put {v : V} {d : D} {i : Nat} (E : SR w g G0 H0 F A σ H ρ s) (hi : i < ρ.length) (h : Dat w F H v d) : ∃ A', SR w g G0 H0 F A' (σ.set i (some v)) H (ρ.set i (.frz d)) s := by
  obtain ⟨A1, E1⟩ := E.push (x := .frz d) (as := []) ⟨v, rfl, h⟩ fun b z => nomatch z
  obtain ⟨A2, E2⟩ := E1.move E.len hi
  exact ⟨A2, by simpa using E2⟩
theorem SR.drop {i : Nat} {o : Option V} (E : SR w g G0 H0 F A σ H ρ s) : SR w g G0 H0 F A (σ.set i o) H (ρ.set i .un) s :=
  ⟨E.src0, E.sub, E.gok, E.keep, E.src, by rw [List.length_set, List.length_set, E.len], fun j y e => by
    by_cases hj : i = j
    · subst hj
      by_cases hl : i < ρ.length
      · rw [List.getElem?_set_self hl] at e
        cases e
        exact trivial
      · rw [List.getElem?_eq_none (by rw [List.length_set]; omega)] at e
        cases e
    · rw [List.getElem?_set_ne hj] at e
      rw [List.getElem?_set_ne hj]
      exact E.slot j y e, E.new, E.dis, E.alive, E.fl⟩
end
end Os
end
section
set_option linter.all false
set_option maxRecDepth 100000
set_option maxHeartbeats 4000000
/-! OsP: an expression of a statement, by its mode; stores. -/
namespace Os
open PySem PySem.Spec PyProof.Rows L2

/-- an expression by its mode, one more slot behind the slots -/
def tM (w : World) (Φ : Fs) (md : Mode) (m : ME) : TE := fun σ H Q => ∃ (g : GS Φ.T), ∃ G0 H0 F A τ ρ π s x s1, SR w g G0 H0 F A (σ ++ τ) H (ρ ++ π) s ∧ ρ.length = σ.length ∧ evM Φ.l md m ρ s = some (x, s1) ∧
  ∀ v H1 F1 A1, SR w g G0 H0 F1 A1 (σ ++ (τ ++ [some v])) H1 (ρ ++ (π ++ [x])) s1 → KeepG F H H1 → (∀ b, F b → F1 b) → Keep g H H1 → Q v H1

section
variable {w : World} {g : GS T} {G G0 : Addr → Prop} {H0 : Hp} {F F1 : Addr → Prop} {A : Nat → List Addr} {σ τ : L2.St} {H H1 H2 : Hp} {ρ π : LSS} {s s1 s2 : S1}
theorem dat_liveUp {v : V} {d : D} (r : Dat w (Up F H) H1 v d) : Dat w (fun b => F b ∨ (H b = none ∧ H1 b ≠ none ∧ True)) H1 v d := r.live.mono fun b z => z.1.elim .inl fun e => .inr ⟨e, z.2, trivial⟩
theorem tM_of {Φ : Fs} {md : Mode} {m : ME} {Q : VK} (hq : md ≠ .q) (h : tM w Φ md m σ H Q) : tE w Φ m σ H Q := by
  obtain ⟨g, G0, H0, F, A, τ, ρ, π, s, x, s1, E, hl, h, k⟩ := h
  unfold evM at h
  obtain ⟨⟨d, s2⟩, h1, h2'⟩ := bind_some h
  obtain ⟨y, h2, h3'⟩ := map_some h2'
  cases h3'
  clear h h2'
  have frzK : ∀ {v : V} {H1 : Hp}, x = .frz d → Keep g H H1 → SrcR g H1 s1 → Dat w (fun b => F b ∨ (H b = none ∧ H1 b ≠ none ∧ True)) H1 v d → Q v H1 := fun {v H1} hy k1 r1 dd => by
    subst hy
    obtain ⟨A2, E2⟩ := (E.grow k1 r1 fun _ => True).push (v := v) (x := .frz d) (as := []) ⟨v, rfl, dd⟩ fun b z => nomatch z
    rw [List.append_assoc, List.append_assoc] at E2
    exact k v H1 _ _ E2 (E.kg k1) (fun b z => .inl z) k1
  have ownK : ∀ {v : V} {H1 : Hp}, x = .own d → Keep g H H1 → SrcR g H1 s1 → (∃ (p : Addr), v = .ref p ∧ H p = none ∧ OwnAt w (fun b => F b ∨ (H b = none ∧ H1 b ≠ none ∧ b ≠ p)) H1 p d) → Q v H1 := fun {v H1} hy k1 r1 hn => by
    obtain ⟨p, rfl, e3, e4⟩ := hn
    subst hy
    obtain ⟨A2, E2⟩ := (E.grow k1 r1 fun b => b ≠ p).push (v := .ref p) (x := .own d) (as := [p]) ⟨p, rfl, rfl, e4⟩ fun b z => by
      rw [List.mem_singleton.mp z]
      exact ⟨E.keep.alive E.src e3, fun z => z.elim (fun z => E.fl p z e3) fun z => z.2.2 rfl, e4.some, fun i hi => E.alive i p hi e3⟩
    rw [List.append_assoc, List.append_assoc] at E2
    exact k _ H1 _ _ E2 (E.kg k1) (fun b z => .inl z) k1
  cases md with
  | f =>
    cases h2
    exact ⟨g, F, _, s, d, _, E.esF hl, h1, fun v H1 p _ => frzK rfl p.keep p.src (dat_liveUp p.dat)⟩
  | i =>
    simp only [slotOf] at h2
    split at h2
    · rename_i hi
      cases h2
      exact ⟨g, _, _, s, d, _, E.esR hl, h1, fun v H1 p _ => frzK rfl p.keep p.src (Dat.imm (fun _ _ _ e => e) p.dat hi)⟩
    · cases h2
  | o =>
    simp only [slotOf] at h2
    split at h2
    · rename_i hn
      cases h2
      refine ⟨g, F, _, s, _, _, E.esF hl, h1, fun v H1 p n => ownK rfl p.keep p.src ?_⟩
      obtain ⟨q, e1, e3, e4⟩ := n hn
      exact ⟨q, e1, e3, (OwnAt.live e4).mono fun b z => z.1.1.elim .inl fun e => .inr ⟨e, z.2, z.1.2⟩⟩
    · cases h2
  | p =>
    simp only [slotOf] at h2
    split at h2
    · rename_i hn
      obtain ⟨hn, hi⟩ := hn
      cases h2
      refine ⟨g, _, _, s, _, _, E.esR hl, h1, fun v H1 p n => ownK rfl p.keep p.src ?_⟩
      obtain ⟨q, e1, e3, e4⟩ := n hn
      refine ⟨q, e1, e3, ?_⟩
      rcases e4 with ⟨vs, ds, rfl, e5, e6⟩ | ⟨es, kvs, rfl, e5, e6⟩
      · exact .inl ⟨vs, _, rfl, e5, Dats.imm (fun _ _ _ e => e) e6 hi⟩
      · rw [immC, Bool.and_eq_true] at hi
        exact .inr ⟨es, _, rfl, e5, Dats.imm (fun _ _ _ e => e) e6.ks hi.1, Dats.imm (fun _ _ _ e => e) e6.vs hi.2, e6.id⟩
    · cases h2
  | t =>
    simp only [slotOf] at h2
    split at h2
    · rename_i d0 xs
      split at h2
      · rename_i hi
        cases h2
        refine ⟨g, _, _, s, _, _, E.esM hl, h1, fun v H1 p _ => ?_⟩
        obtain ⟨a, ob, vs, rfl, e1, e2, r⟩ := p.dat.tupE
        obtain ⟨x1, x2, rfl, c1, c2⟩ := r.two
        obtain ⟨q, us, rfl, gq, e3, r2⟩ := c2.listE
        have hq0 : H q = none := gq.elim (fun z => z.elim) id
        obtain ⟨A2, E2⟩ := (E.grow p.keep p.src fun b => b ≠ q).push (v := .ref a) (x := .pr d0 xs) (as := [q]) ⟨a, q, ob, x1, rfl, rfl, e1, e2, Dat.imm (fun _ _ _ e => e) c1 hi.1, .inl ⟨us, xs, rfl, e3, Dats.imm (fun _ _ _ e => e) r2 hi.2⟩⟩ fun b z => by
          rw [List.mem_singleton.mp z]
          exact ⟨E.keep.alive E.src hq0, fun z => z.elim (fun z => E.fl q z hq0) fun z => z.2.2 rfl, by rw [e3]; exact nofun, fun i hi => E.alive i q hi hq0⟩
        rw [List.append_assoc, List.append_assoc] at E2
        exact k _ H1 _ _ E2 (E.kg p.keep) (fun b z => .inl z) p.keep
      · cases h2
    · cases h2
  | q => exact absurd rfl hq
  | n =>
    simp only [slotOf] at h2
    split at h2
    · rename_i hn
      obtain ⟨hn, hi⟩ := hn
      cases h2
      refine ⟨g, _, _, s, _, _, E.esR hl, h1, fun v H1 p n => frzK rfl p.keep p.src ?_⟩
      obtain ⟨q, rfl, e3, e4⟩ := n hn
      have e5 : OwnAt w (fun b => F b ∨ (H b = none ∧ H1 b ≠ none ∧ True)) H1 q d := by
        rcases e4 with ⟨vs, ds, rfl, e5, e6⟩ | ⟨es, kvs, rfl, e5, e6⟩
        · exact .inl ⟨vs, _, rfl, e5, Dats.imm (fun _ _ _ e => e) e6 hi⟩
        · rw [immC, Bool.and_eq_true] at hi
          exact .inr ⟨es, _, rfl, e5, Dats.imm (fun _ _ _ e => e) e6.ks hi.1, Dats.imm (fun _ _ _ e => e) e6.vs hi.2, e6.id⟩
      exact e5.dat (.inr ⟨e3, e5.some, trivial⟩)
    · cases h2

/-! ### a new list of new lists -/
def NewLs (w : World) (G : Addr → Prop) (H H' : Hp) (vs : List V) (ds : List D) : Prop := ∃ (ps : List Addr), vs = ps.map V.ref ∧ ps.Nodup ∧ (∀ p ∈ ps, H p = none ∧ H' p ≠ none) ∧ Paired (fun p d => OwnAt w (fun b => Up G H b ∧ b ∉ ps) H' p d) ps ds
def tNs (w : World) (Φ : Fs) (ms : MEs) : TA := fun σ H Q => ∃ (g : GS Φ.T), ∃ G ρ s ds s', ES w g G σ H ρ s ∧ (∀ b, G b → H b ≠ none) ∧ evs Φ.l ms ρ s = some (ds, s') ∧ allNew Φ.l ms = true ∧ ∀ vs H', Keep g H H' → SrcR g H' s' → NewLs w G H H' vs ds → Q vs H'
theorem ES.hold {ρ : LS} (E : ES w g G σ H ρ s) (k : Keep g H H1) (r : SrcR g H1 s1) : ES w g G σ H1 ρ s1 where
  gok := E.gok
  src := r
  env := fun i x e => by
    obtain ⟨v, h1, h2⟩ := E.env i x e
    exact ⟨v, h1, h2.keep k E.src E.gok⟩
  esrc := E.esrc
  len := E.len
theorem n_nil {X : Cx} {Φ : Fs} : PA X [] (tNs X.w Φ .nil) := pa_weak pa_nil fun σ H Q ⟨g, G, ρ, s, ds, s', E, gl, ee, _, q⟩ => by
  cases ee
  exact q [] H Keep.refl E.src ⟨[], rfl, .nil, fun p z => (nomatch z), .nil⟩
theorem n_cons {X : Cx} {Φ : Fs} {e : Expr} {es : List Expr} {m : ME} {ms : MEs} (h : Snd X Φ e m) (hn : ∀ (es : List Expr) (env : Env), starEach (e :: es) env = (false, eval e env) :: starEach es env) (hr : PA X es (tNs X.w Φ ms)) : PA X (e :: es) (tNs X.w Φ (.cons m ms)) :=
  pa_weak (pa_cons h.pe hr (hn _ _)) fun σ H Q ⟨g, G, ρ, s, ds, s', E, gl, ee, an, q⟩ => by
    rw [evs] at ee
    obtain ⟨⟨x, s1⟩, e1, e2⟩ := bind_some ee
    obtain ⟨⟨xs, s2⟩, e3, e4⟩ := map_some e2
    cases e4
    rw [allNew, Bool.and_eq_true] at an
    refine ⟨g, G, ρ, s, x, s1, E, e1, fun v H1 p n => ⟨g, G, ρ, s1, xs, _, E.hold p.keep p.src, fun b z e => gl b z (p.keep.alive p.src e), e3, an.2, fun vs H2 k2 r2 hN => ?_⟩⟩
    obtain ⟨a, rfl, a1, a2⟩ := n an.1
    obtain ⟨ps, rfl, nd, al, pr⟩ := hN
    have a2 : OwnAt X.w (fun b => Up G H b ∧ b ≠ a) H1 a x := a2
    have na : ¬ Own2 g a := fun z => E.src.there z a1
    have hap : a ∉ ps := fun z => a2.some (al a z).1
    refine q _ _ (p.keep.trans k2) r2 ⟨a :: ps, rfl, List.nodup_cons.mpr ⟨hap, nd⟩, fun b hb => ?_, .cons ?_ (Paired.imp (fun b d h => OwnAt.mono h fun c z => ?_) pr)⟩
    · rcases List.mem_cons.mp hb with e | e
      · subst e
        refine ⟨a1, fun z => ?_⟩
        have := a2.go (H1 := H2) (G' := fun _ => True) (fun u e => k2 _ _ e na) fun v d z => (z.live.keep k2 p.src fun b z => Up.gok E.src E.gok b z.1.1).mono fun _ _ => trivial
        exact this.some z
      · exact ⟨p.keep.alive p.src (al b e).1, (al b e).2⟩
    · exact a2.go (fun u e => k2 _ _ e na) fun v d z => (z.live.keep k2 p.src fun b z => Up.gok E.src E.gok b z.1.1).mono fun b z => ⟨z.1.1, fun y => (List.mem_cons.mp y).elim z.1.2 fun y => z.2 (al b y).1⟩
    · refine ⟨z.1.elim .inl fun e => .inr (p.keep.alive p.src e), fun y => (List.mem_cons.mp y).elim (fun y => ?_) z.2⟩
      subst y
      exact z.1.elim (fun y => gl _ y a1) fun y => a2.some y
theorem m_q {X : Cx} {Φ : Fs} {es : List Expr} {ms : MEs} {pos : Pos} (h : PA X es (tNs X.w Φ ms)) : PE X (.List es pos) (tM X.w Φ .q (.lst ms)) :=
  pe_weak (pe_lst h) fun σ H Q ⟨g, G0, H0, F, A, τ, ρ, π, s, x, s1, E, hl, hv, k⟩ => by
    unfold evM at hv
    obtain ⟨⟨d, s2⟩, h1, h2'⟩ := bind_some hv
    obtain ⟨y, h2, h3'⟩ := map_some h2'
    cases h3'
    rw [ev] at h1
    obtain ⟨⟨ds, s3⟩, h3, h4⟩ := bind_some h1
    dsimp only at h4
    split at h4
    case isFalse => cases h4
    case isTrue hz =>
      cases h4
      rw [slotOf] at h2
      split at h2
      case isFalse => cases h2
      case isTrue an =>
        refine ⟨g, F, _, s, ds, _, E.esF hl, E.fl, h3, an, fun vs H1 k1 r1 hN => ?_⟩
        obtain ⟨ps, rfl, nd, al, pr⟩ := hN
        cases h2
        have hlen : ps.length = ds.length := Paired.length pr
        refine ⟨by rw [List.length_map, hlen]; exact hz, fun a ha => ?_⟩
        have sm : Same H1 (upd H1 a (.lst (ps.map V.ref))) := same_new ha
        have k2 : Keep g H (upd H1 a (.lst (ps.map V.ref))) := k1.trans (Keep.of sm)
        have hap : a ∉ ps := fun z => (al a z).2 ha
        have aH : H a = none := k1.alive r1 ha
        have hP : Paired (fun p d => OwnAt X.w (fun b => F b ∨ (H b = none ∧ upd H1 a (.lst (ps.map V.ref)) b ≠ none ∧ b ∉ a :: ps)) (upd H1 a (.lst (ps.map V.ref))) p d) ps ds :=
          Paired.imp (fun p d q => q.go (fun u e => sm _ _ e) fun v d q2 => (q2.live.same sm).mono fun b z => z.1.1.elim .inl fun e => .inr ⟨e, by
            rw [upd_ne (fun y : b = a => z.2 (by rw [y]; exact ha))]
            exact z.2, fun y => (List.mem_cons.mp y).elim (fun y => z.2 (by rw [y]; exact ha)) z.1.2⟩) pr
        obtain ⟨A2, E2⟩ := (E.grow k2 (r1.same sm) fun b => b ∉ a :: ps).push (v := .ref a) (x := .own2 ds) (as := a :: ps) ⟨a, ps, rfl, List.nodup_cons.mpr ⟨hap, nd⟩, rfl, upd_same, hP⟩ fun b z => by
          have hb : H b = none := by
            rcases List.mem_cons.mp z with e | e
            · rw [e]
              exact aH
            · exact (al b e).1
          refine ⟨E.keep.alive E.src hb, fun y => y.elim (fun y => E.fl b y hb) fun y => y.2.2 z, ?_, fun i hi => E.alive i b hi hb⟩
          rcases List.mem_cons.mp z with e | e
          · rw [e, upd_same]
            exact nofun
          · rw [upd_ne (fun y : b = a => hap (by rw [← y]; exact e))]
            exact (al b e).2
        rw [List.append_assoc, List.append_assoc] at E2
        exact k _ _ _ _ E2 (E.kg k2) (fun b z => .inl z) k2
end
end Os
end
section
set_option linter.all false
set_option maxRecDepth 100000
set_option maxHeartbeats 4000000
/-! OsQ: stores by the slots' state; a statement's reading. -/
namespace Os
open PySem PySem.Spec PyProof.Rows L2

section
variable {w : World} {g : GS T} {G G0 : Addr → Prop} {H0 : Hp} {F F1 : Addr → Prop} {A : Nat → List Addr} {σ τ : L2.St} {H H1 H2 : Hp} {ρ π : LSS} {s s1 s2 : S1}
theorem SR.pop (E : SR w g G0 H0 F A (σ ++ τ) H (ρ ++ π) s) (hl : ρ.length = σ.length) : SR w g G0 H0 F A σ H ρ s :=
  ⟨E.src0, E.sub, E.gok, E.keep, E.src, hl, fun i x e => by
    have hi : i < ρ.length := (List.getElem?_eq_some_iff.mp e).1
    have q := E.slot i x (by rw [List.getElem?_append_left hi]; exact e)
    rw [List.getElem?_append_left (by omega)] at q
    exact q, E.new, E.dis, E.alive, E.fl⟩
theorem SR.last {v : V} {x : SS} (E : SR w g G0 H0 F A (σ ++ [some v]) H (ρ ++ [x]) s) (hl : ρ.length = σ.length) : SlotR w g F H (A σ.length) (some (some v)) x := by
  have q := E.slot σ.length x (by rw [List.getElem?_append_right (by omega)]; simp [hl])
  rw [List.getElem?_append_right (Nat.le_refl _)] at q
  simpa using q
theorem bindS_len : ∀ (t : MT) {x : D} {ρ ρ1 : LSS}, bindS t x ρ = some ρ1 → ρ1.length = ρ.length
  | .nm i, x, ρ, ρ1, h => by
    unfold bindS at h
    split at h
    · cases h
      rw [List.length_set]
    · cases h
  | .two a b, x, ρ, ρ1, h => by
    unfold bindS at h
    split at h
    · obtain ⟨ρ2, h1, h2⟩ := bind_some h
      rw [bindS_len b h2, bindS_len a h1]
    · cases h
  | .three a b c, x, ρ, ρ1, h => by
    unfold bindS at h
    split at h
    · obtain ⟨ρ3, h, h3⟩ := bind_some h
      obtain ⟨ρ2, h1, h2⟩ := bind_some h
      rw [bindS_len c h3, bindS_len b h2, bindS_len a h1]
    · cases h
  | .four a b c d, x, ρ, ρ1, h => by
    unfold bindS at h
    split at h
    · obtain ⟨ρ4, h, h4⟩ := bind_some h
      obtain ⟨ρ3, h, h3⟩ := bind_some h
      obtain ⟨ρ2, h1, h2⟩ := bind_some h
      rw [bindS_len d h4, bindS_len c h3, bindS_len b h2, bindS_len a h1]
    · cases h
  | .sixL a b c d a' b', x, ρ, ρ1, h => by
    unfold bindS at h
    split at h
    · obtain ⟨ρ6, h, h6⟩ := bind_some h
      obtain ⟨ρ5, h, h5⟩ := bind_some h
      obtain ⟨ρ4, h, h4⟩ := bind_some h
      obtain ⟨ρ3, h, h3⟩ := bind_some h
      obtain ⟨ρ2, h1, h2⟩ := bind_some h
      rw [bindS_len b' h6, bindS_len a' h5, bindS_len d h4, bindS_len c h3, bindS_len b h2, bindS_len a h1]
    · cases h
theorem gmS_run {K : PySem.W.Frag} : ∀ (t : MT) {A : Nat → List Addr} {v : V} {x : D} {ρ ρ1 : LSS} {σ : L2.St} {Q : L2.St → Hp → Prop}, bindS t x ρ = some ρ1 → Dat w F H v x → SR w g G0 H0 F A σ H ρ s →
    (∀ σ2 A2, SR w g G0 H0 F A2 σ2 H ρ1 s → Q σ2 H) → gM K t v σ H Q
  | .nm i, A, v, x, ρ, ρ1, σ, Q, hb, d, E, q => by
    unfold bindS at hb
    split at hb
    · rename_i hi
      cases hb
      obtain ⟨A2, E2⟩ := E.put hi d
      exact q _ A2 E2
    · cases hb
  | .two a b, A, v, x, ρ, ρ1, σ, Q, hb, d, E, q => by
    unfold bindS at hb
    split at hb
    · obtain ⟨ρ2, h1, h2⟩ := bind_some hb
      obtain ⟨p, o, vs, rfl, e, nd, r⟩ := d.tupE
      obtain ⟨x1, x2, rfl, d1, d2⟩ := r.two
      exact ⟨p, _, rfl, SqT.fz e, rfl, _, _, rfl, gmS_run a h1 d1 E fun σ1 A1 E1 => ⟨_, _, rfl, gmS_run b h2 d2 E1 fun σ2 A2 E2 => ⟨rfl, q σ2 A2 E2⟩⟩⟩
    · cases hb
  | .three a b c, A, v, x, ρ, ρ1, σ, Q, hb, d, E, q => by
    unfold bindS at hb
    split at hb
    · obtain ⟨ρ3, hb, h3⟩ := bind_some hb
      obtain ⟨ρ2, h1, h2⟩ := bind_some hb
      obtain ⟨p, o, vs, rfl, e, nd, r⟩ := d.tupE
      obtain ⟨x1, x2, x3, rfl, d1, d2, d3⟩ := r.three
      exact ⟨p, _, rfl, SqT.fz e, rfl, _, _, rfl, gmS_run a h1 d1 E fun σ1 A1 E1 => ⟨_, _, rfl, gmS_run b h2 d2 E1 fun σ2 A2 E2 => ⟨_, _, rfl, gmS_run c h3 d3 E2 fun σ3 A3 E3 => ⟨rfl, q σ3 A3 E3⟩⟩⟩⟩
    · cases hb
  | .four a b c f, A, v, x, ρ, ρ1, σ, Q, hb, d, E, q => by
    unfold bindS at hb
    split at hb
    · obtain ⟨ρ4, hb, h4⟩ := bind_some hb
      obtain ⟨ρ3, hb, h3⟩ := bind_some hb
      obtain ⟨ρ2, h1, h2⟩ := bind_some hb
      obtain ⟨p, o, vs, rfl, e, nd, r⟩ := d.tupE
      obtain ⟨x1, x2, x3, x4, rfl, d1, d2, d3, d4⟩ := r.four
      exact ⟨p, _, rfl, SqT.fz e, rfl, _, _, rfl, gmS_run a h1 d1 E fun σ1 A1 E1 => ⟨_, _, rfl, gmS_run b h2 d2 E1 fun σ2 A2 E2 => ⟨_, _, rfl, gmS_run c h3 d3 E2 fun σ3 A3 E3 => ⟨_, _, rfl, gmS_run f h4 d4 E3 fun σ4 A4 E4 => ⟨rfl, q σ4 A4 E4⟩⟩⟩⟩⟩
    · cases hb
  | .sixL a b c f a' b', A, v, x, ρ, ρ1, σ, Q, hb, d, E, q => by
    unfold bindS at hb
    split at hb
    · obtain ⟨ρ6, hb, h6⟩ := bind_some hb
      obtain ⟨ρ5, hb, h5⟩ := bind_some hb
      obtain ⟨ρ4, hb, h4⟩ := bind_some hb
      obtain ⟨ρ3, hb, h3⟩ := bind_some hb
      obtain ⟨ρ2, h1, h2⟩ := bind_some hb
      obtain ⟨p, vs, rfl, _, e, r⟩ := d.listE
      obtain ⟨x1, x2, x3, x4, x5, x6, rfl, d1, d2, d3, d4, d5, d6⟩ := r.six
      exact ⟨p, _, rfl, SqL.of e, rfl, _, _, rfl, gmS_run a h1 d1 E fun σ1 A1 E1 => ⟨_, _, rfl, gmS_run b h2 d2 E1 fun σ2 A2 E2 => ⟨_, _, rfl, gmS_run c h3 d3 E2 fun σ3 A3 E3 => ⟨_, _, rfl, gmS_run f h4 d4 E3 fun σ4 A4 E4 => ⟨_, _, rfl, gmS_run a' h5 d5 E4 fun σ5 A5 E5 => ⟨_, _, rfl, gmS_run b' h6 d6 E5 fun σ6 A6 E6 => ⟨rfl, q σ6 A6 E6⟩⟩⟩⟩⟩⟩⟩
    · cases hb
theorem gmS_item {K : PySem.W.Frag} {pr : Bool} (t : MT) (ht : pr = true → ∀ i, t ≠ .nm i) {v : V} {x : D} {ρ1 : LSS} {Q : L2.St → Hp → Prop} (hb : bindS t x ρ = some ρ1) (d : ItemR pr w F H v x) (E : SR w g G0 H0 F A σ H ρ s)
    (q : ∀ σ2 A2, SR w g G0 H0 F A2 σ2 H ρ1 s → Q σ2 H) : gM K t v σ H Q := by
  rcases d with d | ⟨hp, T, x1, x2, dx, dy, rfl, e, d1, d2, rfl⟩
  · exact gmS_run t hb d E q
  · cases t with
    | nm i => exact absurd rfl (ht hp i)
    | two a b =>
      rw [bindS] at hb
      obtain ⟨ρ2, h1, h2⟩ := bind_some hb
      exact ⟨T, _, rfl, SqT.of e, rfl, _, _, rfl, gmS_run a h1 d1 E fun σ1 A1 E1 => ⟨_, _, rfl, gmS_run b h2 d2 E1 fun σ2 A2 E2 => ⟨rfl, q σ2 A2 E2⟩⟩⟩
    | three a b c => simp [bindS] at hb
    | four a b c f => simp [bindS] at hb
    | sixL a b c d e f => simp [bindS] at hb
theorem upd_keep {p b : Addr} {u o : HO} (n : b ≠ p) (e : H b = some o) : upd H p u b = some o := by
  rw [upd_ne n]
  exact e
theorem kg_wr {p : Addr} {u : HO} (hp : ∀ o xs, H p ≠ some (.frz o (.tup xs))) (hF : ¬ F p) : KeepG F H (upd H p u) := by
  refine ⟨fun b o z e => upd_keep (fun i => ?_) e, fun b o xs e => upd_keep (fun i => ?_) e⟩
  · subst i
    exact hF z
  · subst i
    exact hp _ _ e
/-- the own lists of the slots, and all that stays, elsewhere: a write to one list of one slot -/
theorem SlotR.wr {as : List Addr} {o : Option (Option V)} {x : SS} {p : Addr} {u : HO} (h : SlotR w g F H as o x) (hp : ∀ o xs, H p ≠ some (.frz o (.tup xs))) (hF : ¬ F p) (ha : p ∉ as) : SlotR w g F (upd H p u) as o x :=
  h.go (fun b hb y e => upd_keep (fun z => by subst z; exact ha hb) e) (fun v d q => q.go (fun b y z e => ⟨(kg_wr hp hF).1 b y z e, z⟩) (kg_wr hp hF).2) (fun v d q => q.go (fun b y z e => ⟨(kg_wr hp hF).1 b y z e, z⟩) (kg_wr hp hF).2) (kg_wr hp hF).2
theorem KeepG.trans' {F F1 : Addr → Prop} (a : KeepG F H H1) (b : KeepG F1 H1 H2) (h : ∀ x, F x → F1 x) : KeepG F H H2 :=
  ⟨fun x o z e => b.1 x o (h x z) (a.1 x o z e), fun x o xs e => b.2 x o xs (a.2 x o xs e)⟩
theorem KeepG.rfl' : KeepG F H H := ⟨fun _ _ _ e => e, fun _ _ _ e => e⟩
/-- a slot's own is written -/
theorem SR.wrOwn {i : Nat} {d d' : D} (E : SR w g G0 H0 F A σ H ρ s) (hi : ρ[i]? = some (.own d)) : ∃ a, σ[i]? = some (some (.ref a)) ∧ OwnAt w F H a d ∧ ¬ F a ∧ ∀ u, OwnAt w F (upd H a u) a d' → KeepG F H (upd H a u) ∧ SR w g G0 H0 F A σ (upd H a u) (ρ.set i (.own d')) s := by
  obtain ⟨a, h1, h2, h3⟩ := E.slot i _ hi
  have hai : a ∈ A i := by rw [h1]; exact List.mem_singleton.mpr rfl
  have hn := E.new i a hai
  have hl : i < ρ.length := (List.getElem?_eq_some_iff.mp hi).1
  refine ⟨a, h2, h3, hn.2, fun u hu => ⟨kg_wr h3.notup hn.2, E.src0, E.sub, E.gok, fun b o e n => ?_, E.src.upd (E.nown hai) h3.nocode, by rw [List.length_set]; exact E.len, fun j x e => ?_, E.new, E.dis, fun j b hb e => ?_, fun b hb e => ?_⟩⟩
  · rw [upd_ne (ne_of_none e hn.1)]
    exact E.keep b o e n
  · by_cases hj : i = j
    · subst hj
      rw [List.getElem?_set_self hl] at e
      cases e
      exact ⟨a, h1, h2, hu⟩
    · rw [List.getElem?_set_ne hj] at e
      exact (E.slot j x e).wr h3.notup hn.2 fun z => hj (E.dis i j a hai z)
  · by_cases hb' : b = a
    · rw [hb', upd_same] at e
      cases e
    · rw [upd_ne hb'] at e
      exact E.alive j b hb e
  · by_cases hb' : b = a
    · rw [hb', upd_same] at e
      cases e
    · rw [upd_ne hb'] at e
      exact E.fl b hb e
/-- the list of a slot's pair is written -/
theorem SR.wrPr {i : Nat} {d : D} {xs ys : List D} (E : SR w g G0 H0 F A σ H ρ s) (hi : ρ[i]? = some (.pr d xs)) : ∃ a q ob x, σ[i]? = some (some (.ref a)) ∧ H a = some (.frz ob (.tup [x, .ref q])) ∧ ob.dict = Option.none ∧ ¬ Own2 g q ∧ OwnAt w F H q (.list xs) ∧ ¬ F q ∧ ∀ u, OwnAt w F (upd H q u) q (.list ys) → KeepG F H (upd H q u) ∧ SR w g G0 H0 F A σ (upd H q u) (ρ.set i (.pr d ys)) s := by
  obtain ⟨a, q, ob, x, h1, h2, h3, h4, h5, h6⟩ := E.slot i _ hi
  have hai : q ∈ A i := by rw [h1]; exact List.mem_singleton.mpr rfl
  have hn := E.new i q hai
  have hl : i < ρ.length := (List.getElem?_eq_some_iff.mp hi).1
  refine ⟨a, q, ob, x, h2, h3, h4, E.nown hai, h6, hn.2, fun u hu => ⟨kg_wr h6.notup hn.2, E.src0, E.sub, E.gok, fun b o e n => ?_, E.src.upd (E.nown hai) h6.nocode, by rw [List.length_set]; exact E.len, fun j y e => ?_, E.new, E.dis, fun j b hb e => ?_, fun b hb e => ?_⟩⟩
  · rw [upd_ne (ne_of_none e hn.1)]
    exact E.keep b o e n
  · by_cases hj : i = j
    · subst hj
      rw [List.getElem?_set_self hl] at e
      cases e
      have kg := kg_wr (u := u) h6.notup hn.2
      exact ⟨a, q, ob, x, h1, h2, kg.2 _ _ _ h3, h4, h5.go (fun b y z e => ⟨kg.1 b y z e, z⟩) kg.2, hu⟩
    · rw [List.getElem?_set_ne hj] at e
      exact (E.slot j y e).wr h6.notup hn.2 fun z => hj (E.dis i j q hai z)
  · by_cases hb' : b = q
    · rw [hb', upd_same] at e
      cases e
    · rw [upd_ne hb'] at e
      exact E.alive j b hb e
  · by_cases hb' : b = q
    · rw [hb', upd_same] at e
      cases e
    · rw [upd_ne hb'] at e
      exact E.fl b hb e
theorem paired_get {α β : Type} {R : α → β → Prop} : ∀ {l : List α} {m : List β} {n : Nat} {y : β}, Paired R l m → m[n]? = some y → ∃ x, l[n]? = some x ∧ R x y
  | _, _, _, _, .nil, h => by simp at h
  | _, _, 0, _, .cons r _, h => by
    cases h
    exact ⟨_, rfl, r⟩
  | _, _, n + 1, _, .cons _ t, h => paired_get (n := n) t (by simpa using h)
theorem paired_set {α β : Type} {R R' : α → β → Prop} {p : α} {y : β} : ∀ {l : List α} {m : List β} {n : Nat}, Paired R l m → l.Nodup → l[n]? = some p → (∀ q ∈ l, q ≠ p → ∀ z, R q z → R' q z) → R' p y → Paired R' l (m.set n y)
  | _, _, _, .nil, _, h, _, _ => by simp at h
  | x :: l, z :: m, 0, .cons r t, nd, h, f, hy => by
    cases h
    exact .cons hy (Paired.impM (fun a ha b q => f a (List.mem_cons_of_mem _ ha) (fun e => (List.nodup_cons.mp nd).1 (e ▸ ha)) b q) t)
  | x :: l, z :: m, n + 1, .cons r t, nd, h, f, hy => by
    have hp : l[n]? = some p := by simpa using h
    exact .cons (f x List.mem_cons_self (fun e => (List.nodup_cons.mp nd).1 (e ▸ List.mem_of_getElem? hp)) z r) (paired_set t (List.nodup_cons.mp nd).2 hp (fun a ha => f a (List.mem_cons_of_mem _ ha)) hy)
/-- one of a slot's own row is written -/
theorem SR.wrOwn2 {i n : Nat} {ds : List D} {d d' : D} (E : SR w g G0 H0 F A σ H ρ s) (hi : ρ[i]? = some (.own2 ds)) (hd : ds[n]? = some d) : ∃ (a : Addr) (ps : List Addr) (p : Addr), σ[i]? = some (some (.ref a)) ∧ H a = some (.lst (ps.map V.ref)) ∧ ¬ Own2 g a ∧ ps.length = ds.length ∧ ps[n]? = some p ∧ OwnAt w F H p d ∧ ¬ F p ∧
    ∀ u, OwnAt w F (upd H p u) p d' → KeepG F H (upd H p u) ∧ SR w g G0 H0 F A σ (upd H p u) (ρ.set i (.own2 (ds.set n d'))) s := by
  obtain ⟨a, ps, h1, nd, h2, h3, h4⟩ := E.slot i _ hi
  obtain ⟨p, hp, h5⟩ := paired_get h4 hd
  have hpm : p ∈ ps := List.mem_of_getElem? hp
  have hai : p ∈ A i := by rw [h1]; exact List.mem_cons_of_mem _ hpm
  have hap : a ≠ p := fun e => (List.nodup_cons.mp nd).1 (e ▸ hpm)
  have hn := E.new i p hai
  have hl : i < ρ.length := (List.getElem?_eq_some_iff.mp hi).1
  refine ⟨a, ps, p, h2, h3, E.nown (i := i) (by rw [h1]; exact List.mem_cons_self), Paired.length h4, hp, h5, hn.2, fun u hu => ⟨kg_wr h5.notup hn.2, E.src0, E.sub, E.gok, fun b o e n => ?_, E.src.upd (E.nown hai) h5.nocode, by rw [List.length_set]; exact E.len, fun j x e => ?_, E.new, E.dis, fun j b hb e => ?_, fun b hb e => ?_⟩⟩
  · rw [upd_ne (ne_of_none e hn.1)]
    exact E.keep b o e n
  · by_cases hj : i = j
    · subst hj
      rw [List.getElem?_set_self hl] at e
      cases e
      have kg := kg_wr (u := u) h5.notup hn.2
      refine ⟨a, ps, h1, nd, h2, upd_keep hap h3, paired_set h4 (List.nodup_cons.mp nd).2 hp (fun q hq ne z r => r.go (fun y e => upd_keep ne e) fun v d z => z.go (fun b y z e => ⟨kg.1 b y z e, z⟩) kg.2) hu⟩
    · rw [List.getElem?_set_ne hj] at e
      exact (E.slot j x e).wr h5.notup hn.2 fun z => hj (E.dis i j p hai z)
  · by_cases hb' : b = p
    · rw [hb', upd_same] at e
      cases e
    · rw [upd_ne hb'] at e
      exact E.alive j b hb e
  · by_cases hb' : b = p
    · rw [hb', upd_same] at e
      cases e
    · rw [upd_ne hb'] at e
      exact E.fl b hb e
/-- a list of data, written -/
theorem own_lst {a : Addr} {vs : List V} {xs : List D} (h3 : ∀ o xs, H a ≠ some (.frz o (.tup xs))) (hF : ¬ F a) (r : Dats w F H vs xs) : OwnAt w F (upd H a (.lst vs)) a (.list xs) :=
  .inl ⟨vs, xs, rfl, upd_same, r.go (fun b y z e => ⟨(kg_wr h3 hF).1 b y z e, z⟩) (kg_wr h3 hF).2⟩
theorem own_dct {a : Addr} {es : Es} {kvs : List (D × D)} (h3 : ∀ o xs, H a ≠ some (.frz o (.tup xs))) (hF : ¬ F a) (r : DKV w F H es kvs) : OwnAt w F (upd H a (dO w a es)) a (.dict kvs) :=
  .inr ⟨es, kvs, rfl, upd_same, r.go fun vs ds z => z.go (fun b y z e => ⟨(kg_wr h3 hF).1 b y z e, z⟩) (kg_wr h3 hF).2⟩
theorem own_isL {a : Addr} {xs : List D} (h : OwnAt w F H a (.list xs)) : ∃ vs, H a = some (.lst vs) ∧ Dats w F H vs xs := by
  rcases h with ⟨vs, ds, e, h1, h2⟩ | ⟨es, kvs, e, h1, h2⟩
  · cases e
    exact ⟨vs, h1, h2⟩
  · cases e
theorem own_isD {a : Addr} {kvs : List (D × D)} (h : OwnAt w F H a (.dict kvs)) : ∃ es, H a = some (dO w a es) ∧ DKV w F H es kvs := by
  rcases h with ⟨vs, ds, e, h1, h2⟩ | ⟨es, kvs, e, h1, h2⟩
  · cases e
  · cases e
    exact ⟨es, h1, h2⟩
end

/-! ### statements -/
def EndOk (w : World) (g : GS T) (G0 : Addr → Prop) (H0 : Hp) (F : Addr → Prop) (H : Hp) (nf : Bool) (D : Ends) : Res → Prop
  | .nx ρ s => ∀ σ H1 F1 A1, SR w g G0 H0 F1 A1 σ H1 ρ s → KeepG F H H1 → (∀ b, F b → F1 b) → D.nx σ H1
  | .bk ρ s => ∀ σ H1 F1 A1, SR w g G0 H0 F1 A1 σ H1 ρ s → KeepG F H H1 → (∀ b, F b → F1 b) → D.bk σ H1
  | .ct ρ s => ∀ σ H1 F1 A1, SR w g G0 H0 F1 A1 σ H1 ρ s → KeepG F H H1 → (∀ b, F b → F1 b) → D.ct σ H1
  | .rt d s => ∀ v H1, Ps w g G0 H0 H1 v d s → (nf = true → NewL w G0 H0 H1 v d) → D.rt v H1
def tS (w : World) (Φ : Fs) (m : MS) : TS := fun D σ H => ∃ (g : GS Φ.T), ∃ G0 H0 F A ρ s r, SR w g G0 H0 F A σ H ρ s ∧ run Φ.l m ρ s = some r ∧ EndOk w g G0 H0 F H (newM Φ.l m) D r
def tSs (w : World) (Φ : Fs) (m : MSs) : TS := fun D σ H => ∃ (g : GS Φ.T), ∃ G0 H0 F A ρ s r, SR w g G0 H0 F A σ H ρ s ∧ runs Φ.l m ρ s = some r ∧ EndOk w g G0 H0 F H (newMs Φ.l m) D r
section
variable {w : World} {g : GS T} {G0 : Addr → Prop} {H0 : Hp} {F F1 : Addr → Prop} {H H1 : Hp} {nf nf1 : Bool} {D D1 : Ends}
theorem EndOk.imp {r : Res} (h : EndOk w g G0 H0 F H nf D r) (k : KeepG F H H1) (f : ∀ b, F b → F1 b) (n : nf = true → nf1 = true) (h1 : ∀ σ H, D.nx σ H → D1.nx σ H) (h2 : ∀ v H, D.rt v H → D1.rt v H) (h3 : ∀ σ H, D.bk σ H → D1.bk σ H) (h4 : ∀ σ H, D.ct σ H → D1.ct σ H) : EndOk w g G0 H0 F1 H1 nf1 D1 r := by
  cases r with
  | nx ρ s => exact fun σ H2 F2 A2 E k2 f2 => h1 _ _ (h σ H2 F2 A2 E (k.trans' k2 f) fun b z => f2 b (f b z))
  | bk ρ s => exact fun σ H2 F2 A2 E k2 f2 => h3 _ _ (h σ H2 F2 A2 E (k.trans' k2 f) fun b z => f2 b (f b z))
  | ct ρ s => exact fun σ H2 F2 A2 E k2 f2 => h4 _ _ (h σ H2 F2 A2 E (k.trans' k2 f) fun b z => f2 b (f b z))
  | rt d s => exact fun v H2 p q => h2 _ _ (h v H2 p fun z => q (n z))
theorem EndOk.from {r : Res} (h : EndOk w g G0 H0 F H nf D r) (k : KeepG F H H1) (f : ∀ b, F b → F1 b) (n : nf = true → nf1 = true) : EndOk w g G0 H0 F1 H1 nf1 D r :=
  h.imp k f n (fun _ _ z => z) (fun _ _ z => z) (fun _ _ z => z) fun _ _ z => z
end
end Os
end
section
set_option linter.all false
set_option maxRecDepth 100000
set_option maxHeartbeats 4000000
/-! OsR: each statement by what it does. -/
namespace Os
open PySem PySem.Spec PyProof.Rows L2

structure XS (X : Cx) (Φ : Fs) (gk : List (Str × D)) (k : Nat) : Prop where
  c : XC X Φ gk k
  fn : ∀ x, X.fn x = true
  po : PassesOwn (model X.prog X.w) X.A X.env X.xe

theorem ps_weak {X : Cx} {st : Stmt} {t t' : TS} (h : PS X st t) (f : ∀ D σ H, t' D σ H → t D σ H) : PS X st t' := ⟨fun pins s σ H D I q => h.run pins s σ H D I (f D σ H q)⟩
theorem pss_weak {X : Cx} {st : List Stmt} {t t' : TS} (h : PSs X st t) (f : ∀ D σ H, t' D σ H → t D σ H) : PSs X st t' := ⟨fun pins s σ H D I q => h.run pins s σ H D I (f D σ H q)⟩

section
variable {X : Cx} {Φ : Fs} {gk : List (Str × D)} {k : Nat}
theorem sndN {l : List FE} {lb : Bool} {N : List Str} {sc : Scope} (hl : Φ.l = l) (hb : Φ.b = lb) : ∀ {es : List Expr} {ms : MEs}, TrEs l gk lb N sc es ms → XC X Φ gk k → X.N = N → X.env.scope = sc → PA X es (tNs X.w Φ ms)
  | _, _, .nil, C, hN, hs => n_nil
  | _, _, .cons e r, C, hN, hs => n_cons (snd e X Φ hl hb C hN hs) e.ns (sndN hl hb r C hN hs)
  | _, _, .star e r, C, hN, hs => ⟨fun pins p s σ H Q I ⟨g, G, ρ, t, ds, s', E, gl, ee, an, q⟩ => by cases an⟩
theorem slot_q {m : ME} {d : D} {y : SS} (h : ∀ ms, m ≠ .lst ms) : slotOf Φ.l .q m d ≠ some y := by
  cases m <;> first | (simp [slotOf]; done) | exact absurd rfl (h _)
theorem trB_two {l : List FE} {lb : Bool} {N : List Str} {sc : Scope} {o : BoolOp} {a b : Expr} {es : List Expr} {m : ME} (h : TrB l gk lb N sc o (a :: b :: es) m) : ∀ ms, m ≠ .lst ms := by
  intro ms z
  subst z
  generalize he : a :: b :: es = l2 at h
  generalize hm : ME.lst ms = m at h
  cases h with
  | one h => cases he
  | cons h1 h2 => cases o <;> cases hm
theorem q_never {e : Expr} {m : ME} (h : ∀ ms, m ≠ .lst ms) : PE X e (tM X.w Φ .q m) := by
  refine ⟨fun pins s σ H Q I ⟨g, G0, H0, F, A, τ, ρ, π, s0, x, s1, E, hl, hv, k⟩ => ?_⟩
  unfold evM at hv
  obtain ⟨⟨d, s2⟩, h1, h2'⟩ := bind_some hv
  obtain ⟨y, h2, h3'⟩ := map_some h2'
  exact absurd h2 (slot_q h)
theorem sndM {l : List FE} {lb : Bool} {N : List Str} {sc : Scope} {e : Expr} {m : ME} (md : Mode) (h : TrE l gk lb N sc e m) (hl : Φ.l = l) (hb : Φ.b = lb) (C : XC X Φ gk k) (hN : X.N = N) (hs : X.env.scope = sc) : PE X e (tM X.w Φ md m) := by
  by_cases hq : md = .q
  · subst hq
    cases h with
    | lst h => exact m_q (sndN hl hb h C hN hs)
    | bo h => exact q_never (trB_two h)
    | _ => exact q_never fun ms z => nomatch z
  · exact pe_weak (snd h X Φ hl hb C hN hs).pe fun σ H Q q => tM_of hq q
end

section
variable {w : World} {Φ : Fs}
theorem a_set {i : Nat} {md : Mode} {m : ME} {D : Ends} {σ : L2.St} {H : Hp} (h : tS w Φ (.set i md m) D σ H) : tAsg (tM w Φ md m) (gName i) D σ H := by
  obtain ⟨g, G0, H0, F, A, ρ, s, r, E, hr, ho⟩ := h
  rw [run] at hr
  obtain ⟨⟨x, s1⟩, h1, h2⟩ := bind_some hr
  dsimp only at h2
  split at h2
  · rename_i hi
    cases h2
    refine ⟨g, G0, H0, F, A, [], ρ, [], s, x, s1, by simpa using E, E.len, h1, fun v H1 F1 A1 E1 kg ff kp => ?_⟩
    obtain ⟨A2, E2⟩ := SR.move (τ := []) (π := []) (by simpa using E1) E.len hi
    exact ho _ H1 F1 A2 (by simpa using E2) kg ff
  · cases h2
theorem a_par {i j : Nat} {m1 m2 : Mode} {e1 e2 : ME} {D : Ends} {σ : L2.St} {H : Hp} {Q : List V → Hp → Prop} (h : tS w Φ (.par2 i j m1 m2 e1 e2) D σ H)
    (q : ∀ v u H2 (g : GS Φ.T) G0 H0 F F2 A2 ρ x y s2, SR w g G0 H0 F2 A2 (σ ++ [some v, some u]) H2 (ρ ++ [x, y]) s2 → ρ.length = σ.length → i < ρ.length → j < ρ.length → i ≠ j → KeepG F H H2 → (∀ b, F b → F2 b) → EndOk w g G0 H0 F H true D (.nx ((ρ.set i x).set j y) s2) → Q [v, u] H2) : tCons (tM w Φ m1 e1) (tCons (tM w Φ m2 e2) tNil) σ H Q := by
  obtain ⟨g, G0, H0, F, A, ρ, s, r, E, hr, ho⟩ := h
  rw [run] at hr
  obtain ⟨⟨x, s1⟩, h1, h2⟩ := bind_some hr
  obtain ⟨⟨y, s2⟩, h3, h4⟩ := bind_some h2
  dsimp only at h4
  split at h4
  · rename_i hi
    cases h4
    refine ⟨g, G0, H0, F, A, [], ρ, [], s, x, s1, by simpa using E, E.len, h1, fun v H1 F1 A1 E1 kg ff kp => ?_⟩
    refine ⟨g, G0, H0, F1, A1, [] ++ [some v], ρ, [] ++ [x], s1, y, s2, E1, E.len, h3, fun u H2 F2 A2 E2 kg2 ff2 kp2 => ?_⟩
    exact q v u H2 g G0 H0 F F2 A2 ρ x y s2 (by simpa using E2) E.len hi.1 hi.2.1 hi.2.2 (kg.trans' kg2 ff) (fun b z => ff2 b (ff b z)) ho
  · cases h4
theorem par_fin {g : GS T} {G0 : Addr → Prop} {H0 : Hp} {F F2 : Addr → Prop} {A2 : Nat → List Addr} {σ : L2.St} {H H2 : Hp} {ρ : LSS} {x y : SS} {v u : V} {s2 : S1} {D : Ends} {i j : Nat} (E : SR w g G0 H0 F2 A2 (σ ++ [some v, some u]) H2 (ρ ++ [x, y]) s2) (hl : ρ.length = σ.length) (hi : i < ρ.length) (hj : j < ρ.length)
    (kg : KeepG F H H2) (ff : ∀ b, F b → F2 b) (ho : EndOk w g G0 H0 F H true D (.nx ((ρ.set i x).set j y) s2)) : D.nx ((σ.set i (some v)).set j (some u)) H2 := by
  obtain ⟨A3, E3⟩ := SR.move (σ := σ) (τ := [some u]) (π := [y]) (by simpa using E) hl hi
  obtain ⟨A4, E4⟩ := SR.move (σ := σ.set i (some v)) (τ := []) (π := []) (by simpa using E3) (by rw [List.length_set, List.length_set, hl]) (by rw [List.length_set]; exact hj)
  exact ho _ H2 F2 A4 (by simpa using E4) kg ff
theorem a_parS {i j : Nat} {m1 m2 : Mode} {e1 e2 : ME} {D : Ends} {σ : L2.St} {H : Hp} (h : tS w Φ (.par2 i j m1 m2 e1 e2) D σ H) : tPar i j (tCons (tM w Φ m1 e1) (tCons (tM w Φ m2 e2) tNil)) D σ H :=
  a_par h fun v u H2 g G0 H0 F F2 A2 ρ x y s2 E hl hi hj hij kg ff ho => ⟨v, u, rfl, par_fin E hl hi hj kg ff ho⟩
theorem a_parO {K : PySem.W.Frag} {i j : Nat} {m1 m2 : Mode} {e1 e2 : ME} {D : Ends} {σ : L2.St} {H : Hp} (h : tS w Φ (.par2 i j m1 m2 e1 e2) D σ H) :
    tAsg (fun σ H Q => tCons (tM w Φ m1 e1) (tCons (tM w Φ m2 e2) tNil) σ H fun xs H1 => xs.length ≤ sizeLine ∧ TupO H1 Q xs) (gTup K 2 (gCons (gName i) (gCons (gName j) gNil))) D σ H := by
  unfold tAsg
  exact a_par h fun v u H2 g G0 H0 F F2 A2 ρ x y s2 E hl hi hj hij kg ff ho => ⟨by show 2 ≤ sizeLine; decide, fun p o hp ho' => ⟨p, [v, u], rfl, SqT.fz upd_same, rfl, v, [u], rfl, u, [], rfl, rfl,
    par_fin (E.step (Keep.of (same_new hp)) (E.src.same (same_new hp))) hl hi hj ⟨fun b o z e => same_new hp _ _ (kg.1 b o z e), fun b o xs e => same_new hp _ _ (kg.2 b o xs e)⟩ ff ho⟩⟩
theorem a_unp {K : PySem.W.Frag} {t : MT} {md : Mode} {m : ME} {D : Ends} {σ : L2.St} {H : Hp} (h : tS w Φ (.unp t md m) D σ H) : tAsg (tM w Φ md m) (gM K t) D σ H := by
  obtain ⟨g, G0, H0, F, A, ρ, s, r, E, hr, ho⟩ := h
  rw [run] at hr
  obtain ⟨⟨x, s1⟩, h1, h2⟩ := bind_some hr
  dsimp only at h2
  split at h2
  · obtain ⟨ρ1, h3, h4⟩ := map_some h2
    cases h4
    refine ⟨g, G0, H0, F, A, [], ρ, [], s, _, s1, by simpa using E, E.len, h1, fun v H1 F1 A1 E1 kg ff kp => ?_⟩
    have E1' := E1
    rw [List.nil_append, List.nil_append] at E1'
    obtain ⟨u, hu, hd⟩ := E1'.last E.len
    cases hu
    exact gmS_run t h3 hd (E1'.pop E.len) fun σ2 A2 E2 => ho _ H1 F1 A2 E2 kg ff
  · cases h2
theorem dats_set {G : Addr → Prop} {H : Hp} {v : V} {d : PyData} (r : Dat w G H v d) : ∀ {vs : List V} {ds : List PyData}, Dats w G H vs ds → ∀ n, Dats w G H (vs.set n v) (ds.set n d)
  | _, _, .nil, n => .nil
  | _, _, .cons _ t, 0 => .cons r t
  | _, _, .cons q t, n + 1 => .cons q (dats_set r t n)
theorem a_app {K : PySem.W.Frag} {i : Nat} {md : Mode} {m : ME} {D : Ends} {σ : L2.St} {H : Hp} (h : tS w Φ (.app i md m) D σ H) : tDrop (tBM K "list" rAppend (tVar i) (tCons (tM w Φ md m) tNil)) D σ H := by
  obtain ⟨g, G0, H0, F, A, ρ, s, r, E, hr, ho⟩ := h
  rw [run] at hr
  split at hr
  · rename_i xs hxs
    obtain ⟨⟨x, s1⟩, h1, h2⟩ := bind_some hr
    dsimp only at h2
    split at h2
    · rename_i d
      split at h2
      · rename_i hz
        cases h2
        obtain ⟨a, q1, q2, q3⟩ := E.slot i _ hxs
        obtain ⟨vs, q4, q5⟩ := own_isL q3
        refine ⟨_, q2, .inl ⟨rfl, vs, SqL.of q4⟩, g, G0, H0, F, A, [], ρ, [], s, _, s1, by simpa using E, E.len, h1, fun v H1 F1 A1 E1 kg ff kp => ?_⟩
        have E1' := E1
        rw [List.nil_append, List.nil_append] at E1'
        obtain ⟨u, hu, hd⟩ := E1'.last E.len
        cases hu
        obtain ⟨b, p1, p2, p3, p4⟩ := (E1'.pop E.len).wrOwn (d' := .list (xs ++ [d])) hxs
        rw [q2] at p1
        cases p1
        obtain ⟨us, p5, p6⟩ := own_isL p2
        obtain ⟨p7, p8⟩ := p4 (.lst (us ++ [v])) (own_lst p2.notup p3 (p6.append (.cons hd .nil)))
        have := p6.length
        exact ⟨_, us, v, rfl, rfl, p5, by omega, ho _ _ F1 A1 p8 (kg.trans' p7 ff) ff⟩
      · cases h2
    · cases h2
  · cases hr
theorem a_ext {i : Nat} {m : ME} {D : Ends} {σ : L2.St} {H : Hp} (h : tS w Φ (.ext i m) D σ H) : tAug i (tE w Φ m) rExt2 D σ H := by
  obtain ⟨g, G0, H0, F, A, ρ, s, r, E, hr, ho⟩ := h
  rw [run] at hr
  split at hr
  · rename_i xs hxs
    obtain ⟨⟨y, s1⟩, h1, h2⟩ := bind_some hr
    dsimp only at h2
    split at h2
    · rename_i ys
      split at h2
      · rename_i hz
        cases h2
        obtain ⟨a, q1, q2, q3⟩ := E.slot i _ hxs
        refine ⟨_, q2, g, F, _, s, _, s1, SR.esF (τ := []) (π := []) (by simpa using E) E.len, h1, fun v H1 p _ => ?_⟩
        have E1 := E.grow p.keep p.src fun _ => True
        have dd := dat_liveUp p.dat
        obtain ⟨b, p1, p2, p3, p4⟩ := E1.wrOwn (d' := .list (xs ++ ys)) hxs
        rw [q2] at p1
        cases p1
        obtain ⟨us, p5, p6⟩ := own_isL p2
        obtain ⟨c, zs, rfl, _, p9, p10⟩ := dd.listE
        obtain ⟨p7, p8⟩ := p4 (.lst (us ++ zs)) (own_lst p2.notup p3 (p6.append p10))
        have e1 := p6.length
        have e2 := p10.length
        refine ⟨_, _, us, zs, rfl, rfl, p5, p9, by omega, ?_⟩
        have hs : σ.set i (some (.ref a)) = σ := by
          apply List.ext_getElem?
          intro n
          by_cases hn : i = n
          · subst hn
            rw [List.getElem?_set_self (List.getElem?_eq_some_iff.mp q2).1]
            exact q2.symm
          · rw [List.getElem?_set_ne hn]
        show D.nx (σ.set i (some (V.ref a))) _
        rw [hs]
        exact ho _ _ _ _ p8 ((E.kg p.keep).trans' p7 fun b z => .inl z) fun b z => .inl z
      · cases h2
    · cases h2
  · cases hr
theorem a_aug {i : Nat} {sb : Bool} {m : ME} {D : Ends} {σ : L2.St} {H : Hp} (h : tS w Φ (.aug i sb m) D σ H) : tAug i (tE w Φ m) (ipI fun a b => if sb = true then a - b else a + b) D σ H := by
  obtain ⟨g, G0, H0, F, A, ρ, s, r, E, hr, ho⟩ := h
  rw [run] at hr
  split at hr
  · rename_i a hxs
    obtain ⟨⟨y, s1⟩, h1, h2⟩ := bind_some hr
    dsimp only at h2
    split at h2
    · rename_i b
      cases h2
      obtain ⟨v, q1, q2⟩ := E.slot i _ hxs
      obtain rfl := q2.intE
      refine ⟨_, q1, g, _, _, s, _, s1, SR.esR (τ := []) (π := []) (by simpa using E) E.len, h1, fun v H1 p _ => ?_⟩
      obtain rfl := p.dat.intE
      obtain ⟨A2, E2⟩ := (E.step p.keep p.src).put (v := .int (if sb = true then a - b else a + b)) (List.getElem?_eq_some_iff.mp hxs).1 (.int _)
      exact ⟨a, b, rfl, rfl, ho _ _ _ _ E2 (E.kg p.keep) fun b z => z⟩
    · cases h2
  · cases hr
/-- what a store to a place of a list or of a dict asks -/
def rSetO (w : World) : V → V → V → Hp → (Hp → Prop) → Prop := fun o i v H Q => ∃ (p : Addr) (es : Es) (G : Addr → Prop) (kvs : List (PyData × PyData)) (kd : PyData) (k : NestedKey), o = .ref p ∧ H p = some (dO w p es) ∧ DKV w G H es kvs ∧ es.length < sizeLine ∧ Dat w G H i kd ∧ keyD kd = some k ∧ Q (upd H p (dO w p (esPut es k i v)))
theorem a_lput {i : Nat} {md : Mode} {k v : ME} {D : Ends} {σ : L2.St} {H : Hp} (h : tS w Φ (.lput i md k v) D σ H) : tAsg (tM w Φ md v) (gSub (tVar i) (tE w Φ k) rSetL) D σ H := by
  obtain ⟨g, G0, H0, F, A, ρ, s, r, E, hr, ho⟩ := h
  rw [run] at hr
  obtain ⟨⟨x, s1⟩, h1, h2⟩ := bind_some hr
  obtain ⟨⟨y, s2⟩, h3, h4⟩ := bind_some h2
  dsimp only at h4
  split at h4
  · rename_i xs d j hxs
    obtain ⟨n, h5, h6⟩ := map_some h4
    cases h6
    refine ⟨g, G0, H0, F, A, [], ρ, [], s, _, s1, by simpa using E, E.len, h1, fun v' H1 F1 A1 E1 kg ff kp => ?_⟩
    have E1' := E1
    rw [List.nil_append, List.nil_append] at E1'
    obtain ⟨u, hu, hd⟩ := E1'.last E.len
    cases hu
    have E2 := E1'.pop E.len
    obtain ⟨a, q1, q2, q3⟩ := E2.slot i _ hxs
    refine ⟨_, q2, g, _, _, s1, _, s2, SR.esR (τ := []) (π := []) (by simpa using E2) E.len, h3, fun w' H2 p _ => ?_⟩
    obtain rfl := p.dat.intE
    have E3 := E2.step p.keep p.src
    obtain ⟨b, p1, p2, p3, p4⟩ := E3.wrOwn (d' := .list (xs.set n d)) hxs
    rw [q2] at p1
    cases p1
    obtain ⟨us, p5, p6⟩ := own_isL p2
    have hd2 := hd.keep p.keep E2.src E2.gok
    obtain ⟨p7, p8⟩ := p4 (.lst (us.set n v')) (own_lst p2.notup p3 (dats_set hd2 p6 n))
    refine ⟨_, us, j, n, rfl, rfl, p5, by rw [p6.length]; exact h5, ?_⟩
    exact ho _ _ _ _ p8 (kg.trans' ((E2.kg p.keep).trans' p7 fun b z => z) ff) ff
  · cases h4
theorem a_dput {i : Nat} {md : Mode} {k v : ME} {D : Ends} {σ : L2.St} {H : Hp} (h : tS w Φ (.dput i md k v) D σ H) : tAsg (tM w Φ md v) (gSub (tVar i) (tE w Φ k) (rSetO w)) D σ H := by
  obtain ⟨g, G0, H0, F, A, ρ, s, r, E, hr, ho⟩ := h
  rw [run] at hr
  obtain ⟨⟨x, s1⟩, h1, h2⟩ := bind_some hr
  obtain ⟨⟨y, s2⟩, h3, h4⟩ := bind_some h2
  dsimp only at h4
  split at h4
  · rename_i kvs d kd hxs
    obtain ⟨kk, h5, h6⟩ := bind_some h4
    split at h6
    · rename_i hz
      cases h6
      refine ⟨g, G0, H0, F, A, [], ρ, [], s, _, s1, by simpa using E, E.len, h1, fun v' H1 F1 A1 E1 kg ff kp => ?_⟩
      have E1' := E1
      rw [List.nil_append, List.nil_append] at E1'
      obtain ⟨u, hu, hd⟩ := E1'.last E.len
      cases hu
      have E2 := E1'.pop E.len
      obtain ⟨a, q1, q2, q3⟩ := E2.slot i _ hxs
      refine ⟨_, q2, ?_⟩
      refine tM_of (md := .i) (fun z => nomatch z) ⟨g, G0, H0, F1, A1, [], ρ, [], s1, _, s2, by simpa using E2, E.len, h3, fun w' H2 F2 A2 E3 kg2 ff2 kp2 => ?_⟩
      have E3' := E3
      rw [List.nil_append, List.nil_append] at E3'
      obtain ⟨u2, hu2, hk⟩ := E3'.last E.len
      cases hu2
      have E4 := E3'.pop E.len
      obtain ⟨b, p1, p2, p3, p4⟩ := E4.wrOwn (d' := .dict (kvPut kvs kk kd d)) hxs
      rw [q2] at p1
      cases p1
      obtain ⟨es, p5, p6⟩ := own_isD p2
      have hd2 : Dat w F2 H2 v' d := (hd.go (fun b o z e => ⟨kg2.1 b o z e, z⟩) kg2.2).mono ff2
      obtain ⟨p7, p8⟩ := p4 (dO w _ (esPut es kk w' v')) (own_dct p2.notup p3 (put_dkv p6 (keyD_key h5).1 hk hd2))
      have hl : es.length = kvs.length := by simpa using p6.ks.length
      refine ⟨_, es, F2, _, kd, kk, rfl, p5, p6, by omega, hk, h5, ?_⟩
      exact ho _ _ _ _ p8 (kg.trans' (kg2.trans' p7 ff2) ff) fun b z => ff2 b (ff b z)
    · cases h6
  · cases h4
theorem a_dput2 {K : PySem.W.Frag} {i : Nat} {md : Mode} {a k v : ME} {D : Ends} {σ : L2.St} {H : Hp} (h : tS w Φ (.dput2 i md a k v) D σ H) : tAsg (tM w Φ md v) (gSub (fun σ H Q => tVar i σ H fun o H1 => tE w Φ a σ H1 fun j H2 => ∃ l ps n z, o = .ref l ∧ j = .int n ∧ SqL K H2 l ps ∧ L2.atI ps n = some z ∧ Q z H2) (tE w Φ k) (rSetO w)) D σ H := by
  obtain ⟨g, G0, H0, F, A, ρ, s, r, E, hr, ho⟩ := h
  rw [run] at hr
  obtain ⟨⟨x, s1⟩, h1, h2⟩ := bind_some hr
  obtain ⟨⟨t, s2⟩, h3, h4⟩ := bind_some h2
  obtain ⟨⟨y, s3⟩, h5, h6⟩ := bind_some h4
  dsimp only at h6
  split at h6
  · rename_i ds d j kd hxs
    obtain ⟨kk, h7, h8⟩ := bind_some h6
    obtain ⟨n, h9, h10⟩ := bind_some h8
    split at h10
    · rename_i kvs hdn
      split at h10
      · rename_i hz
        cases h10
        refine ⟨g, G0, H0, F, A, [], ρ, [], s, _, s1, by simpa using E, E.len, h1, fun v' H1 F1 A1 E1 kg ff kp => ?_⟩
        have E1' := E1
        rw [List.nil_append, List.nil_append] at E1'
        obtain ⟨u, hu, hd⟩ := E1'.last E.len
        cases hu
        have E2 := E1'.pop E.len
        obtain ⟨l, ps, q1, q2, q3, q4, q5⟩ := E2.slot i _ hxs
        refine ⟨_, q3, g, _, _, s1, _, s2, SR.esR (τ := []) (π := []) (by simpa using E2) E.len, h3, fun w' H2 p _ => ?_⟩
        obtain rfl := p.dat.intE
        have E3 := E2.step p.keep p.src
        obtain ⟨l2, ps2, pa, r1, r2, rO, r3, r4, r5, r6, r7⟩ := E3.wrOwn2 (d' := .dict (kvPut kvs kk kd d)) hxs hdn
        rw [q3] at r1
        cases r1
        refine ⟨_, ps2.map V.ref, j, .ref pa, rfl, rfl, SqL.of r2, ?_, ?_⟩
        · unfold L2.atI
          rw [List.length_map, r3, h9, Option.bind_some, List.getElem?_map, r4]
          rfl
        · refine tM_of (md := .i) (fun z => nomatch z) ⟨g, G0, H0, F1, A1, [], ρ, [], s2, _, s3, by simpa using E3, E.len, h5, fun w2 H3 F2 A2 E4 kg2 ff2 kp2 => ?_⟩
          have E4' := E4
          rw [List.nil_append, List.nil_append] at E4'
          obtain ⟨u2, hu2, hk⟩ := E4'.last E.len
          cases hu2
          have E5 := E4'.pop E.len
          obtain ⟨l3, ps3, pb, t1, t2, _, t3, t4, t5, t6, t7⟩ := E5.wrOwn2 (d' := .dict (kvPut kvs kk kd d)) hxs hdn
          rw [q3] at t1
          cases t1
          have t8 := kp2 _ _ r2 rO
          rw [t2] at t8
          have t9 : (ps3.map V.ref)[n]? = (ps2.map V.ref)[n]? := congrArg (fun l : List V => l[n]?) (HO.lst.inj (Option.some.inj t8))
          rw [List.getElem?_map, List.getElem?_map, t4, r4] at t9
          cases t9
          obtain ⟨es, p5, p6⟩ := own_isD t5
          have hd2 : Dat w F2 H3 v' d := (((hd.keep p.keep E2.src E2.gok)).go (fun b o z e => ⟨kg2.1 b o z e, z⟩) kg2.2).mono ff2
          obtain ⟨p7, p8⟩ := t7 (dO w _ (esPut es kk w2 v')) (own_dct t5.notup t6 (put_dkv p6 (keyD_key h7).1 hk hd2))
          have hl : es.length = kvs.length := by simpa using p6.ks.length
          refine ⟨_, es, F2, _, kd, kk, rfl, p5, p6, by omega, hk, h7, ?_⟩
          exact ho _ _ _ _ p8 (kg.trans' ((E2.kg p.keep).trans' (kg2.trans' p7 ff2) fun b z => z) ff) fun b z => ff2 b (ff b z)
      · cases h10
    · cases h10
  · cases h6
theorem r_ret {g : GS T} {G0 : Addr → Prop} {H0 : Hp} {F : Addr → Prop} {A : Nat → List Addr} {σ : L2.St} {H H1 : Hp} {ρ : LSS} {s s1 : S1} {v : V} {d : D} (E : SR w g G0 H0 F A σ H ρ s) (p : Ps w g (FA F A) H H1 v d s1) : Ps w g G0 H0 H1 v d s1 :=
  ⟨E.keep.trans p.keep, p.src, p.dat.mono fun b z => z.elim (fun z => z.elim (E.sub b) fun ⟨i, hb⟩ => .inr (E.new i b hb).1) fun e => .inr (E.keep.alive E.src e)⟩
theorem r_retN {g : GS T} {G0 : Addr → Prop} {H0 : Hp} {F : Addr → Prop} {A : Nat → List Addr} {σ : L2.St} {H H1 : Hp} {ρ : LSS} {s : S1} {v : V} {d : D} (E : SR w g G0 H0 F A σ H ρ s) (n : NewL w (FA F A) H H1 v d) : NewL w G0 H0 H1 v d := by
  obtain ⟨p, e1, e3, e4⟩ := n
  exact ⟨p, e1, E.keep.alive E.src e3, OwnAt.mono e4 fun b z => ⟨z.1.elim (fun z => z.elim (E.sub b) fun ⟨i, hb⟩ => .inr (E.new i b hb).1) fun e => .inr (E.keep.alive E.src e), z.2⟩⟩
theorem a_ret {m : ME} {D : Ends} {σ : L2.St} {H : Hp} (h : tS w Φ (.ret m) D σ H) : tRet (tE w Φ m) D σ H := by
  obtain ⟨g, G0, H0, F, A, ρ, s, r, E, hr, ho⟩ := h
  rw [run] at hr
  obtain ⟨⟨d, s1⟩, h1, h2⟩ := map_some hr
  cases h2
  exact ⟨g, _, _, s, d, s1, SR.esR (τ := []) (π := []) (by simpa using E) E.len, h1, fun v H1 p n => ho v H1 (r_ret E p) fun z => r_retN E (n z)⟩
theorem a_retO {i : Nat} {D : Ends} {σ : L2.St} {H : Hp} (h : tS w Φ (.retO i) D σ H) : tRet (tVar i) D σ H := by
  obtain ⟨g, G0, H0, F, A, ρ, s, r, E, hr, ho⟩ := h
  rw [run] at hr
  split at hr
  · rename_i xs hxs
    cases hr
    obtain ⟨a, q1, q2, q3⟩ := E.slot i _ hxs
    have hai : a ∈ A i := by rw [q1]; exact List.mem_singleton.mpr rfl
    have hn := E.new i a hai
    refine ⟨_, q2, ho _ H ⟨E.keep, E.src, (q3.mono fun b z => E.sub b z).dat (.inr hn.1)⟩ fun _ => ⟨a, rfl, hn.1, OwnAt.mono q3 fun b z => ⟨E.sub b z, fun e => ?_⟩⟩⟩
    subst e
    exact hn.2 z
  · cases hr
theorem a_drop {m : ME} {D : Ends} {σ : L2.St} {H : Hp} (h : tS w Φ (.drop m) D σ H) : tDrop (tE w Φ m) D σ H := by
  obtain ⟨g, G0, H0, F, A, ρ, s, r, E, hr, ho⟩ := h
  rw [run] at hr
  obtain ⟨⟨d, s1⟩, h1, h2⟩ := map_some hr
  cases h2
  exact ⟨g, _, _, s, d, s1, SR.esR (τ := []) (π := []) (by simpa using E) E.len, h1, fun v H1 p n => ho _ H1 F A (E.step p.keep p.src) (E.kg p.keep) fun _ z => z⟩
theorem a_ite {c : ME} {a b : MSs} {D : Ends} {σ : L2.St} {H : Hp} (h : tS w Φ (.ite c a b) D σ H) : tIfS (tT w Φ c) (tSs w Φ a) (tSs w Φ b) D σ H := by
  obtain ⟨g, G0, H0, F, A, ρ, s, r, E, hr, ho⟩ := h
  rw [run] at hr
  obtain ⟨⟨d, s1⟩, h1, h2⟩ := bind_some hr
  obtain ⟨t, h3, h4⟩ := bind_some h2
  refine ⟨g, _, _, s, d, s1, t, SR.esR (τ := []) (π := []) (by simpa using E) E.len, h1, h3, fun H1 k1 r1 => ?_⟩
  have nw : newM Φ.l (.ite c a b) = (newMs Φ.l a && newMs Φ.l b) := rfl
  cases t with
  | true => exact ⟨g, G0, H0, F, A, ρ, s1, r, E.step k1 r1, h4, ho.from (E.kg k1) (fun _ z => z) fun z => by
      rw [nw, Bool.and_eq_true] at z
      exact z.1⟩
  | false => exact ⟨g, G0, H0, F, A, ρ, s1, r, E.step k1 r1, h4, ho.from (E.kg k1) (fun _ z => z) fun z => by
      rw [nw, Bool.and_eq_true] at z
      exact z.2⟩
theorem a_brk {D : Ends} {σ : L2.St} {H : Hp} (h : tS w Φ .brk D σ H) : tBreak D σ H := by
  obtain ⟨g, G0, H0, F, A, ρ, s, r, E, hr, ho⟩ := h
  cases hr
  exact ho _ H F A E KeepG.rfl' fun _ z => z
theorem a_cnt {D : Ends} {σ : L2.St} {H : Hp} (h : tS w Φ .cnt D σ H) : tCont D σ H := by
  obtain ⟨g, G0, H0, F, A, ρ, s, r, E, hr, ho⟩ := h
  cases hr
  exact ho _ H F A E KeepG.rfl' fun _ z => z
theorem a_pass {D : Ends} {σ : L2.St} {H : Hp} (h : tS w Φ .pass D σ H) : tNext D σ H := by
  obtain ⟨g, G0, H0, F, A, ρ, s, r, E, hr, ho⟩ := h
  cases hr
  exact ho _ H F A E KeepG.rfl' fun _ z => z
theorem a_cons {m : MS} {r : MSs} {D : Ends} {σ : L2.St} {H : Hp} (h : tSs w Φ (.cons m r) D σ H) : tSeq (tS w Φ m) (tSs w Φ r) D σ H := by
  obtain ⟨g, G0, H0, F, A, ρ, s, x, E, hr, ho⟩ := h
  rw [runs] at hr
  obtain ⟨y, h1, h2⟩ := bind_some hr
  have nw : newMs Φ.l (.cons m r) = (newM Φ.l m && newMs Φ.l r) := rfl
  rw [nw] at ho
  refine ⟨g, G0, H0, F, A, ρ, s, y, E, h1, ?_⟩
  cases y with
  | nx ρ1 s1 => exact fun σ1 H1 F1 A1 E1 kg ff => ⟨g, G0, H0, F1, A1, ρ1, s1, x, E1, h2, ho.from kg ff fun z => by
      rw [Bool.and_eq_true] at z
      exact z.2⟩
  | bk ρ1 s1 => cases h2; exact ho
  | ct ρ1 s1 => cases h2; exact ho
  | rt d s1 =>
    cases h2
    exact fun v H1 p q => ho v H1 p fun z => q (by
      rw [Bool.and_eq_true] at z
      exact z.1)
theorem a_nil {D : Ends} {σ : L2.St} {H : Hp} (h : tSs w Φ .nil D σ H) : tNext D σ H := by
  obtain ⟨g, G0, H0, F, A, ρ, s, x, E, hr, ho⟩ := h
  cases hr
  exact ho _ H F A E KeepG.rfl' fun _ z => z
/-- a ghost: a slot's own stays from now on -/
theorem a_frz {i : Nat} {r : MSs} {D : Ends} {σ : L2.St} {H : Hp} (h : tSs w Φ (.cons (.frz i) r) D σ H) : tSs w Φ r D σ H := by
  obtain ⟨g, G0, H0, F, A, ρ, s, x, E, hr, ho⟩ := h
  rw [runs] at hr
  obtain ⟨y, h1, h2⟩ := bind_some hr
  have nw : newMs Φ.l (.cons (.frz i) r) = (newM Φ.l (.frz i) && newMs Φ.l r) := rfl
  have n2 : newMs Φ.l (.cons (.frz i) r) = true → newMs Φ.l r = true := fun z => by
    rw [nw, Bool.and_eq_true] at z
    exact z.2
  rw [run] at h1
  have go : ∀ {xd : PyData}, (∃ v, σ[i]? = some (some v) ∧ Dat w (fun b => F b ∨ b ∈ A i) H v xd) → runs Φ.l r (ρ.set i (.frz xd)) s = some x → i < ρ.length → tSs w Φ r D σ H := fun {xd} hx hr hl => by
    refine ⟨g, G0, H0, fun b => F b ∨ b ∈ A i, fun j => if j = i then [] else A j, ρ.set i (.frz xd), s, x, ⟨E.src0, fun b z => z.elim (E.sub b) fun z => .inr (E.new i b z).1, fun b z => z.elim (E.gok b) fun z => E.nown z, E.keep, E.src, by rw [List.length_set]; exact E.len, fun j y e => ?_, fun j b hb => ?_, fun j l b h1 h2 => ?_, fun j b hb => ?_, fun b z => z.elim (E.fl b) fun z => E.alive i b z⟩, hr, ho.from KeepG.rfl' (fun b z => .inl z) n2⟩
    · by_cases hj : i = j
      · subst hj
        rw [List.getElem?_set_self hl] at e
        cases e
        exact hx
      · rw [List.getElem?_set_ne hj] at e
        simp only [Ne.symm hj, if_false]
        exact (E.slot j y e).go (fun _ _ _ q => q) (fun v d q => q.mono fun b z => .inl z) (fun v d q => q.mono fun b z => .inl z) fun _ _ _ q => q
    · split at hb
      · cases hb
      · rename_i hj
        exact ⟨(E.new j b hb).1, fun z => z.elim (E.new j b hb).2 fun z => hj (E.dis j i b hb z)⟩
    · split at h1
      · cases h1
      · split at h2
        · cases h2
        · exact E.dis j l b h1 h2
    · split at hb
      · cases hb
      · exact E.alive j b hb
  split at h1
  · rename_i xs hxs
    cases h1
    exact go ((E.slot i _ hxs).read rfl (fun b z => .inl z) fun b z => .inr z) h2 (List.getElem?_eq_some_iff.mp hxs).1
  · rename_i xss hxs
    cases h1
    exact go ((E.slot i _ hxs).read rfl (fun b z => .inl z) fun b z => .inr z) h2 (List.getElem?_eq_some_iff.mp hxs).1
  · cases h1
/-- a for loop -/
theorem for_core {K : PySem.W.Frag} {pr : Bool} {t : MT} {b : MSs} {D : Ends} {g : GS Φ.T} {G0 : Addr → Prop} {H0 : Hp} {F : Addr → Prop} {A : Nat → List Addr} {ρ : LSS} {s s1 : S1} {r : Res} {xs : List PyData} {J : It} {σ : L2.St} {H H1 : Hp} (E : SR w g G0 H0 F A σ H ρ s) (k1 : Keep g H H1) (r1 : SrcR g H1 s1) (hJ : ItOk pr w (fun b => Up F H b ∧ H1 b ≠ none) H1 J xs) (ht : pr = true → ∀ i, t ≠ .nm i)
    (h2 : forRun (runs Φ.l b) t xs ρ s1 = some r) (ho : EndOk w g G0 H0 F H (newMs Φ.l b) D r) : tFor (fun _ _ R => R J H1) (gM K t) (tSs w Φ b) D σ H := by
  have E1 := E.grow k1 r1 fun _ => True
  have kg1 : KeepG F H H1 := E.kg k1
  refine for_it hJ (fun i σ Hc => ∃ Fi Ai ρi si, SR w g G0 H0 Fi Ai σ Hc ρi si ∧ KeepG (fun b => F b ∨ (H b = none ∧ H1 b ≠ none ∧ True)) H1 Hc ∧ (∀ b, (F b ∨ (H b = none ∧ H1 b ≠ none ∧ True)) → Fi b) ∧ forRun (runs Φ.l b) t (xs.drop i) ρi si = some r)
    ⟨_, A, ρ, s1, E1, KeepG.rfl', fun _ z => z, by simpa using h2⟩ (fun i σ Hc hi ⟨Fi, Ai, ρi, si, a1, a2, a3, a4⟩ => ?_) (fun i x σ Hc Hx hi ⟨Fi, Ai, ρi, si, a1, a2, a3, a4⟩ hy => ?_) fun σ Hc ⟨Fi, Ai, ρi, si, a1, a2, a3, a4⟩ => ?_
  · exact ⟨fun c o z e => a2.1 c o (z.1.elim .inl fun q => .inr ⟨q, z.2, trivial⟩) e, a2.2⟩
  · obtain ⟨sm, d, hd, itm⟩ := hy
    have hdr : xs.drop i = d :: xs.drop (i + 1) := by
      obtain ⟨hl, hv⟩ := List.getElem?_eq_some_iff.mp hd
      rw [← hv]
      exact List.drop_eq_getElem_cons hl
    rw [hdr, forRun] at a4
    obtain ⟨ρ1, b1, a4⟩ := bind_some a4
    obtain ⟨r1', b2, a4⟩ := bind_some a4
    have lift : ∀ {v : V} {x : PyData}, Dat w (fun b => Up F H b ∧ H1 b ≠ none) Hx v x → Dat w Fi Hx v x := fun {v x} q => q.mono fun c z => a3 c (z.1.elim .inl fun e => .inr ⟨e, z.2, trivial⟩)
    have itm' : ItemR pr w Fi Hx x d := by
      rcases itm with q | ⟨hp, T, x1, x2, dx, dy, e0, e1, q, q', e2⟩
      · exact .inl (lift q)
      · exact .inr ⟨hp, T, x1, x2, dx, dy, e0, e1, lift q, lift q', e2⟩
    have a1' := a1.step (Keep.of sm) (a1.src.same sm)
    refine gmS_item t ht b1 itm' a1' fun σ2 A2 E2 => ⟨g, G0, H0, Fi, A2, ρ1, si, r1', E2, b2, ?_⟩
    have kgx : KeepG (fun b => F b ∨ (H b = none ∧ H1 b ≠ none ∧ True)) H1 Hx := ⟨fun c o z e => sm _ _ (a2.1 c o z e), fun c o ys e => sm _ _ (a2.2 c o ys e)⟩
    have again : ∀ ρ2 s2, forRun (runs Φ.l b) t (xs.drop (i + 1)) ρ2 s2 = some r → ∀ (σ3 : L2.St) H3 F3 A3, SR w g G0 H0 F3 A3 σ3 H3 ρ2 s2 → KeepG Fi Hx H3 → (∀ b, Fi b → F3 b) → ∃ Fi Ai ρi si, SR w g G0 H0 Fi Ai σ3 H3 ρi si ∧ KeepG (fun b => F b ∨ (H b = none ∧ H1 b ≠ none ∧ True)) H1 H3 ∧ (∀ b, (F b ∨ (H b = none ∧ H1 b ≠ none ∧ True)) → Fi b) ∧ forRun (runs Φ.l b) t (xs.drop (i + 1)) ρi si = some r :=
      fun ρ2 s2 hf σ3 H3 F3 A3 E3 kg3 ff3 => ⟨F3, A3, ρ2, s2, E3, kgx.trans' kg3 a3, fun c z => ff3 c (a3 c z), hf⟩
    cases r1' with
    | nx ρ2 s2 => exact again ρ2 s2 a4
    | ct ρ2 s2 => exact again ρ2 s2 a4
    | bk ρ2 s2 =>
      cases a4
      exact fun σ3 H3 F3 A3 E3 kg3 ff3 => ho σ3 H3 F3 A3 E3 (kg1.trans' (kgx.trans' kg3 a3) fun c z => .inl z) fun c z => ff3 c (a3 c (.inl z))
    | rt d2 s2 =>
      cases a4
      exact ho
  · have e0 : xs.drop xs.length = [] := List.drop_length ..
    rw [e0, forRun] at a4
    cases a4
    exact ho σ Hc Fi Ai a1 (kg1.trans' a2 fun c z => .inl z) fun c z => a3 c (.inl z)
theorem a_for {K : PySem.W.Frag} {pr : Bool} {t : MT} {it : MI} {b : MSs} {D : Ends} {σ : L2.St} {H : Hp} (ht : pr = true → ∀ i, t ≠ .nm i) (h : tS w Φ (.for_ t it b) D σ H) : tFor (tI pr w Φ it) (gM K t) (tSs w Φ b) D σ H := by
  obtain ⟨g, G0, H0, F, A, ρ, s, r, E, hr, ho⟩ := h
  rw [run] at hr
  obtain ⟨⟨xs, s1⟩, h1, h2⟩ := bind_some hr
  exact ⟨g, F, _, s, xs, s1, SR.esF (τ := []) (π := []) (by simpa using E) E.len, h1, fun J H1 k1 r1 hJ => for_core E k1 r1 hJ ht h2 ho⟩
end
end Os
end
section
set_option linter.all false
set_option maxRecDepth 100000
set_option maxHeartbeats 4000000
/-! OsRw: while; many targets at once. -/
namespace Os
open PySem PySem.Spec PyProof.Rows L2
section
variable {w : World} {Φ : Fs}
theorem a_wh {c : ME} {b : MSs} {D : Ends} {σ : L2.St} {H : Hp} (h : tS w Φ (.wh c b) D σ H) : tWhile (tT w Φ c) (tSs w Φ b) D σ H := by
  obtain ⟨g, G0, H0, F, A, ρ, s, r, E, hr, ho⟩ := h
  rw [run] at hr
  have nw : newM Φ.l (.wh c b) = newMs Φ.l b := rfl
  rw [nw] at ho
  refine ⟨fun n σ' H' => ∃ F1 A1 ρ1 s1, SR w g G0 H0 F1 A1 σ' H' ρ1 s1 ∧ KeepG F H H' ∧ (∀ b, F b → F1 b) ∧ whRun (fun ρ s => (ev Φ.l c (ρ.map SS.r) s).bind fun (x, s1) => (tru x).map fun t => (t, s1)) (runs Φ.l b) n ρ1 s1 = some r, ⟨_, F, A, ρ, s, E, KeepG.rfl', fun _ z => z, hr⟩, ?_⟩
  rintro n σ1 H1 ⟨F1, A1, ρ1, s1, E1, kg, ff, hw⟩
  cases n with
  | zero => cases hw
  | succ n =>
    rw [whRun] at hw
    obtain ⟨⟨t, s2⟩, h1, h2⟩ := bind_some hw
    obtain ⟨⟨x, s3⟩, h3, h4⟩ := bind_some h1
    obtain ⟨t', h5, h6⟩ := map_some h4
    cases h6
    refine ⟨g, _, _, s1, x, _, t, SR.esR (τ := []) (π := []) (by simpa using E1) E1.len, h3, h5, fun H2 k2 r2 => ?_⟩
    have E2 := E1.step k2 r2
    have kg2 : KeepG F H H2 := kg.trans' (E1.kg k2) ff
    cases t with
    | false =>
      cases h2
      exact iteF (ho σ1 H2 F1 A1 E2 kg2 ff)
    | true =>
      dsimp only at h2
      rw [if_pos rfl] at h2
      obtain ⟨r1, h7, h8⟩ := bind_some h2
      refine iteT ?_
      refine ⟨fun σ3 H3 => ∃ F3 A3 ρ3 s4, SR w g G0 H0 F3 A3 σ3 H3 ρ3 s4 ∧ KeepG F H H3 ∧ (∀ b, F b → F3 b) ∧ whRun (fun ρ s => (ev Φ.l c (ρ.map SS.r) s).bind fun (x, s1) => (tru x).map fun t => (t, s1)) (runs Φ.l b) n ρ3 s4 = some r, fun σ' H' z => ⟨n, Nat.lt_succ_self n, z⟩, g, G0, H0, F1, A1, ρ1, _, r1, E2, h7, ?_⟩
      cases r1 with
      | nx ρ2 s4 => exact fun σ3 H3 F3 A3 E3 kg3 ff3 => ⟨F3, A3, ρ2, s4, E3, kg2.trans' kg3 ff, fun b z => ff3 b (ff b z), h8⟩
      | ct ρ2 s4 => exact fun σ3 H3 F3 A3 E3 kg3 ff3 => ⟨F3, A3, ρ2, s4, E3, kg2.trans' kg3 ff, fun b z => ff3 b (ff b z), h8⟩
      | bk ρ2 s4 =>
        cases h8
        exact fun σ3 H3 F3 A3 E3 kg3 ff3 => ho σ3 H3 F3 A3 E3 (kg2.trans' kg3 ff) fun b z => ff3 b (ff b z)
      | rt d s4 =>
        cases h8
        exact fun v H3 p q => ho v H3 p q

/-! ### many targets -/
def tPs (w : World) (Φ : Fs) (mds : List Mode) (ms : MEs) : TA := fun σ H Q => ∃ (g : GS Φ.T), ∃ G0 H0 F A τ ρ π s xs s1, SR w g G0 H0 F A (σ ++ τ) H (ρ ++ π) s ∧ ρ.length = σ.length ∧ evP Φ.l mds ms ρ s = some (xs, s1) ∧
  ∀ (vs : List V) H1 F1 A1, vs.length = xs.length → SR w g G0 H0 F1 A1 (σ ++ (τ ++ vs.map some)) H1 (ρ ++ (π ++ xs)) s1 → KeepG F H H1 → (∀ b, F b → F1 b) → Q vs H1
theorem ps_nil {X : Cx} : PA X [] (tPs X.w Φ [] .nil) := pa_weak pa_nil fun σ H Q ⟨g, G0, H0, F, A, τ, ρ, π, s, xs, s1, E, hl, ee, q⟩ => by
  cases ee
  exact q [] H F A rfl (by simpa using E) KeepG.rfl' fun _ z => z
theorem ps_cons {X : Cx} {e : Expr} {es : List Expr} {md : Mode} {mds : List Mode} {m : ME} {ms : MEs} (h : PE X e (tM X.w Φ md m)) (hn : ∀ (es : List Expr) (env : Env), starEach (e :: es) env = (false, eval e env) :: starEach es env) (hr : PA X es (tPs X.w Φ mds ms)) : PA X (e :: es) (tPs X.w Φ (md :: mds) (.cons m ms)) :=
  pa_weak (pa_cons h hr (hn _ _)) fun σ H Q ⟨g, G0, H0, F, A, τ, ρ, π, s, xs, s1, E, hl, ee, q⟩ => by
    rw [evP] at ee
    obtain ⟨⟨x, s2⟩, e1, e2⟩ := bind_some ee
    obtain ⟨⟨ys, s3⟩, e3, e4⟩ := map_some e2
    cases e4
    refine ⟨g, G0, H0, F, A, τ, ρ, π, s, x, s2, E, hl, e1, fun v H1 F1 A1 E1 kg ff kp => ⟨g, G0, H0, F1, A1, τ ++ [some v], ρ, π ++ [x], s2, ys, _, E1, hl, e3, fun vs H2 F2 A2 hl2 E2 kg2 ff2 => ?_⟩⟩
    refine q (v :: vs) H2 F2 A2 (by simp [hl2]) ?_ (kg.trans' kg2 ff) fun b z => ff2 b (ff b z)
    simpa using E2
theorem evP_len {Φ : List FE} : ∀ {mds : List Mode} {ms : MEs} {ρ : LSS} {s s1 : S1} {xs : List SS}, evP Φ mds ms ρ s = some (xs, s1) → xs.length = mds.length
  | [], .nil, _, _, _, _, h => by
    cases h
    rfl
  | md :: mds, .cons e r, _, _, _, _, h => by
    rw [evP] at h
    obtain ⟨⟨x, s2⟩, e1, e2⟩ := bind_some h
    obtain ⟨⟨ys, s3⟩, e3, e4⟩ := map_some e2
    cases e4
    simp [evP_len e3]
  | [], .cons _ _, _, _, _, _, h => by cases h
  | [], .star _ _, _, _, _, _, h => by cases h
  | _ :: _, .nil, _, _, _, _, h => by cases h
  | _ :: _, .star _ _, _, _, _, _, h => by cases h
theorem setAll_len {α : Type} : ∀ (is : List Nat) (xs ρ : List α), (setAll is xs ρ).length = ρ.length
  | [], _, _ => by simp [setAll]
  | _ :: _, [], _ => by simp [setAll]
  | i :: is, x :: xs, ρ => by rw [setAll, setAll_len is xs, List.length_set]
theorem move_all {g : GS T} {G0 : Addr → Prop} {H0 : Hp} {F : Addr → Prop} {H : Hp} {s : S1} : ∀ (is : List Nat) (vs : List V) (xs : List SS) {A : Nat → List Addr} {σ : L2.St} {ρ : LSS}, SR w g G0 H0 F A (σ ++ vs.map some) H (ρ ++ xs) s → ρ.length = σ.length → vs.length = is.length → xs.length = is.length → (∀ i ∈ is, i < ρ.length) →
    ∃ A', SR w g G0 H0 F A' (setAll is (vs.map some) σ) H (setAll is xs ρ) s
  | [], [], [], A, σ, ρ, E, hl, h1, h2, _ => ⟨A, by simpa [setAll] using E⟩
  | [], _ :: _, _, _, _, _, _, _, h1, _, _ => by cases h1
  | [], [], _ :: _, _, _, _, _, _, _, h2, _ => by cases h2
  | i :: is, v :: vs, x :: xs, A, σ, ρ, E, hl, h1, h2, hi => by
    obtain ⟨A1, E1⟩ := SR.move (σ := σ) (ρ := ρ) (τ := vs.map some) (π := xs) (v := v) (x := x) (by simpa using E) hl (hi i List.mem_cons_self)
    obtain ⟨A2, E2⟩ := move_all is vs xs E1 (by rw [List.length_set, List.length_set, hl]) (by simpa using h1) (by simpa using h2) (fun j hj => by rw [List.length_set]; exact hi j (List.mem_cons_of_mem _ hj))
    exact ⟨A2, by simpa [setAll] using E2⟩
  | _ :: _, [], _, _, _, _, _, _, h1, _, _ => by cases h1
  | _ :: _, _ :: _, [], _, _, _, _, _, _, h2, _ => by cases h2
def gNs : List Nat → TGs
  | [] => gNil
  | i :: is => gCons (gName i) (gNs is)
theorem gNs_run : ∀ (is : List Nat) (vs : List V) {σ : L2.St} {H : Hp} {Q : L2.St → Hp → Prop}, vs.length = is.length → Q (setAll is (vs.map some) σ) H → gNs is vs σ H Q
  | [], [], σ, H, Q, _, q => ⟨rfl, q⟩
  | i :: is, v :: vs, σ, H, Q, h, q => ⟨v, vs, rfl, gNs_run is vs (by simpa using h) q⟩
  | [], _ :: _, _, _, _, h, _ => by cases h
  | _ :: _, [], _, _, _, h, _ => by cases h
theorem a_parP {is : List Nat} {mds : List Mode} {ms : MEs} {D : Ends} {σ : L2.St} {H : Hp} {Q : List V → Hp → Prop} (h : tS w Φ (.par is mds ms) D σ H)
    (q : ∀ (vs : List V) H1 (g : GS Φ.T) G0 H0 F F1 A1 ρ xs s1, vs.length = is.length → xs.length = is.length → (∀ i ∈ is, i < ρ.length) → is.Nodup → ρ.length = σ.length → SR w g G0 H0 F1 A1 (σ ++ vs.map some) H1 (ρ ++ xs) s1 → KeepG F H H1 → (∀ b, F b → F1 b) → EndOk w g G0 H0 F H true D (.nx (setAll is xs ρ) s1) → Q vs H1) : tPs w Φ mds ms σ H Q := by
  obtain ⟨g, G0, H0, F, A, ρ, s, r, E, hr, ho⟩ := h
  rw [run] at hr
  obtain ⟨⟨xs, s1⟩, h1, h2⟩ := bind_some hr
  dsimp only at h2
  split at h2
  · rename_i hc
    obtain ⟨hc1, hc2, hc3⟩ := hc
    cases h2
    refine ⟨g, G0, H0, F, A, [], ρ, [], s, xs, s1, by simpa using E, E.len, h1, fun vs H1 F1 A1 hl E1 kg ff => ?_⟩
    exact q vs H1 g G0 H0 F F1 A1 ρ xs s1 (hl.trans hc1) hc1 (fun i hi => by simpa using List.all_eq_true.mp hc3 i hi) hc2 E.len (by simpa using E1) kg ff ho
  · cases h2
theorem a_par3 {i j l : Nat} {mds : List Mode} {ms : MEs} {D : Ends} {σ : L2.St} {H : Hp} (h : tS w Φ (.par [i, j, l] mds ms) D σ H) : tPar3 i j l (tPs w Φ mds ms) D σ H :=
  a_parP h fun vs H1 g G0 H0 F F1 A1 ρ xs s1 h1 h2 hi nd hl E kg ff ho => by
    obtain ⟨A2, E2⟩ := move_all [i, j, l] vs xs E hl h1 h2 hi
    match vs, h1 with
    | [u, v, z], _ => exact ⟨u, v, z, rfl, ho _ H1 F1 A2 E2 kg ff⟩
theorem a_parN {K : PySem.W.Frag} {is : List Nat} {n : Nat} {mds : List Mode} {ms : MEs} {D : Ends} {σ : L2.St} {H : Hp} (hn : is.length = n) (hz : n ≤ 100) (h : tS w Φ (.par is mds ms) D σ H) :
    tAsg (fun σ H Q => tPs w Φ mds ms σ H fun xs H1 => xs.length ≤ sizeLine ∧ TupO H1 Q xs) (gTup K n (gNs is)) D σ H := by
  unfold tAsg
  refine a_parP h fun vs H1 g G0 H0 F F1 A1 ρ xs s1 h1 h2 hi nd hl E kg ff ho => ⟨Nat.le_trans (show vs.length ≤ 100 by omega) (by decide), fun p o hp ho' => ?_⟩
  have sm : Same H1 (upd H1 p (.frz o (.tup vs))) := same_new hp
  obtain ⟨A2, E2⟩ := move_all is vs xs (E.step (Keep.of sm) (E.src.same sm)) hl h1 h2 hi
  exact ⟨p, vs, rfl, SqT.fz upd_same, by omega, gNs_run is vs h1 (ho _ _ F1 A2 E2 ⟨fun b o z e => sm _ _ (kg.1 b o z e), fun b o xs e => sm _ _ (kg.2 b o xs e)⟩ ff)⟩
/-- xs.extend(t), whatever slots the tuple's object has -/
theorem meets_extT (p : Addr) (xs : Array Value) (c : Nat) (q : Addr) (ys : Array Value) (c2 : Nat) (dd : Option Addr) (sl : Array (Option Value)) (h1 : xs.size ≤ sizeLine) (h2 : xs.size + ys.size ≤ sizeLine) :
    Meets (Builtin.«list.extend» ⟨[.ref p, .ref q], []⟩) (fun _ R t => t.heap.get? p = some { cls := .type "list", dict := none, data := .seq xs c, slots := #[] } ∧ t.heap.get? q = some { cls := .type "tuple", dict := dd, data := .seq ys c2, slots := sl } ∧
      R (.ok (.ret Value.none)) { t with heap := t.heap.update p (Obj.mapSeq fun z => z ++ ys), toks := t.toks }) :=
  .of_wp fun prog w A R t h => by
    obtain ⟨hp, g, d, tk, os⟩ := t
    obtain ⟨e1, e2, e3⟩ := h
    have k1 := sub_tuple_tuple
    have k2 := sub_tuple_list
    have k3 := sub_list_list
    have k4 := sub_list_tuple
    have notLong : ¬ (!xs.isEmpty && Builtin.List.listTooLong (xs.size + ys.size)) = true := by
      rw [notLongL h2, Bool.and_false]
      decide
    have sum : (xs ++ ys).size ≤ sizeLine + 1 := by
      rw [Array.size_append]
      omega
    wp_walk using (wpAny_updateSeq e1 rfl (hz := h1) (_hz' := sum)), AutoSeq1.wpAny_loadPart' e1, AutoSeq1.wpAny_loadPart' e2
    exact ⟨_, rfl, e3⟩
def rExtT (K : PySem.W.Frag) : V → List V → Hp → VK → Prop := fun x vs H Q => ∃ (p q : Addr) (xs ys : List V), x = .ref p ∧ vs = [.ref q] ∧ H p = some (.lst xs) ∧ SqT K H q ys ∧ xs.length + ys.length ≤ sizeLine ∧ Q .non (upd H p (.lst (xs ++ ys)))
theorem mt_extT {X : Cx} : MtM X "list.extend" (rExtT X.K) := by
  intro pins s σ H x vs v us Q I rx rv ⟨p, q, xs, ys, e1, e2, g1, g2, hz, k⟩
  subst e1 e2
  cases rx
  obtain ⟨u, rfl, ru⟩ := rv.one
  cases ru
  obtain ⟨z, its, n, r, hl, e⟩ := I.lstM g1
  obtain ⟨its2, r2, ⟨o2, w1, w2, n2, w3⟩, hl2⟩ := I.tuple g2
  obtain ⟨ocl, od, odata, osl⟩ := o2
  dsimp only at w2 w3
  subst w2 w3
  have q1 := r.length
  have q2 := r2.length
  refine call_meets F.slot_list_extend ⟨_, e, rfl⟩ F.entry_list_extend (F.args_list_extend_2 _ _) (meets_extT p its.toArray n q its2.toArray n2 od osl (by simp only [List.size_toArray]; omega) (by simp only [List.size_toArray]; omega)) ⟨e, w1, ?_⟩
  exact ⟨.non, _, I.lset (its' := its ++ its2) g1 e (by simp) (r.append r2) (by rw [List.length_append]; omega), rfl, k⟩
theorem a_extT {K : PySem.W.Frag} {i : Nat} {m : ME} {D : Ends} {σ : L2.St} {H : Hp} (h : tS w Φ (.extT i m) D σ H) : tDrop (tBM K "list" (rExtT K) (tVar i) (tCons (tE w Φ m) tNil)) D σ H := by
  obtain ⟨g, G0, H0, F, A, ρ, s, r, E, hr, ho⟩ := h
  rw [run] at hr
  split at hr
  · rename_i xs hxs
    obtain ⟨⟨y, s1⟩, h1, h2⟩ := bind_some hr
    dsimp only at h2
    split at h2
    · rename_i ys
      split at h2
      · rename_i hz
        cases h2
        obtain ⟨a, q1, q2, q3⟩ := E.slot i _ hxs
        obtain ⟨vs, q4, q5⟩ := own_isL q3
        refine ⟨_, q2, .inl ⟨rfl, vs, SqL.of q4⟩, g, F, _, s, _, s1, SR.esF (τ := []) (π := []) (by simpa using E) E.len, h1, fun v H1 p _ => ?_⟩
        have E1 := E.grow p.keep p.src fun _ => True
        have dd := dat_liveUp p.dat
        obtain ⟨b, p1, p2, p3, p4⟩ := E1.wrOwn (d' := .list (xs ++ ys)) hxs
        rw [q2] at p1
        cases p1
        obtain ⟨us, p5, p6⟩ := own_isL p2
        obtain ⟨c, o, zs, rfl, p9, _, p10⟩ := dd.tupE
        obtain ⟨p7, p8⟩ := p4 (.lst (us ++ zs)) (own_lst p2.notup p3 (p6.append p10))
        have e1 := p6.length
        have e2 := p10.length
        exact ⟨_, c, us, zs, rfl, rfl, p5, SqT.fz p9, by omega, ho _ _ _ _ p8 ((E.kg p.keep).trans' p7 fun b z => .inl z) fun b z => .inl z⟩
      · cases h2
    · cases h2
  · cases hr
theorem wipe_in {σ : L2.St} {own : List Nat} {j : Nat} {v : V} (h : j ∈ own) : wipe ((wipe σ own).set j (some v)) own = wipe σ own := by
  rw [wipe_set h, wipe_twice]
theorem a_news {K : PySem.W.Frag} {i j : Nat} {it : MI} {own : List Nat} {D : Ends} {σ : L2.St} {H : Hp} (hj : j ∈ own) (h : tS w Φ (.news i j it) D σ H) : tAsg (tLc (tI false w Φ it) (gM K (.nm j)) (tFs w Φ .nil) (tLst tNil) own) (gName i) D σ H := by
  obtain ⟨g, G0, H0, F, A, ρ, s, r, E, hr, ho⟩ := h
  rw [run] at hr
  obtain ⟨⟨xs, s1⟩, h1, h2⟩ := bind_some hr
  dsimp only at h2
  split at h2
  · rename_i hc
    obtain ⟨hz, hi⟩ := hc
    cases h2
    refine ⟨g, _, _, s, xs, s1, SR.esR (τ := []) (π := []) (by simpa using E) E.len, h1, fun J H1 k1 r1 hJ Dn hD => ?_⟩
    have nD : ¬ Own2 g Dn := fun z => r1.there z hD
    have E1 := E.step k1 r1
    have gok1 : ∀ b, Up (FA F A) H b ∧ H1 b ≠ none → ¬ Own2 g b := fun b z => z.1.elim (fun z => z.elim (E.gok b) fun ⟨i, hb⟩ => E.nown hb) fun z => fun o => E.src.there o z
    refine lc_it hJ (fun n Hc => ∃ ps : List Addr, Hc Dn = some (.lst (ps.map V.ref)) ∧ Keep g H1 Hc ∧ SrcR g Hc s1 ∧ ps.length = n ∧ ps.Nodup ∧ ∀ p ∈ ps, H1 p = none ∧ p ≠ Dn ∧ Hc p = some (.lst []))
      ⟨[], upd_same, fun b o e n => by rw [upd_ne (ne_of_none e hD)]; exact e, r1.upd nD (noCode_none hD), rfl, .nil, fun p z => nomatch z⟩ (fun n Hc hn ⟨ps, a1, a2, a3, a4, a5, a6⟩ => ?_) (fun n x Hc Hx hn ⟨ps, a1, a2, a3, a4, a5, a6⟩ hy => ?_) (fun Hc ⟨ps, a1, a2, a3, a4, a5, a6⟩ => ?_)
    · exact ⟨fun b o gb e => a2 b o e (gok1 b gb), fun b o xs e => a2 b _ e (r1.tup e)⟩
    · obtain ⟨sm, d, hd, _⟩ := hy
      refine ⟨wipe_in hj, ?_⟩
      refine ⟨g, fun _ => False, List.replicate ((wipe σ own).set j (some x)).length .un, s1, true, s1, ⟨fun b z => z.elim, a3.same sm, fun q y e => ?_, fun q e => ?_, by rw [List.length_replicate]⟩, rfl, fun H3 k3 r3 => ?_⟩
      · rw [List.getElem?_replicate] at e
        split at e <;> cases e
      · rw [List.getElem?_replicate] at e
        split at e <;> cases e
      dsimp only
      rw [if_pos rfl]
      refine ⟨Nat.zero_le _, fun p hp => ?_⟩
      have b1 : H3 Dn = some (.lst (ps.map V.ref)) := k3 _ _ (sm _ _ a1) nD
      have hpD : p ≠ Dn := fun z => by rw [z, b1] at hp; cases hp
      have pH1 : H1 p = none := by
        have z0 : Hx p = none := k3.alive r3 hp
        exact a2.alive a3 (Same.dead sm z0)
      have hpp : p ∉ ps := fun z => by
        obtain ⟨c1, c2, c3⟩ := a6 p z
        have := k3 _ _ (sm _ _ c3) fun o => r1.there o c1
        rw [hp] at this
        cases this
      refine ⟨ps.map V.ref, by rw [upd_ne (Ne.symm hpD)]; exact b1, by rw [List.length_map]; omega, ps ++ [p], ?_, ?_, ?_, by simp [a4], ?_, fun q hq => ?_⟩
      · rw [upd_same, List.map_append]
        rfl
      · intro b o e n
        rw [upd_ne (ne_of_none e hD), upd_ne (ne_of_none e pH1)]
        exact k3 b o (sm b o (a2 b o e n)) n
      · exact (r3.upd (fun o => r1.there o pH1) (noCode_none hp)).upd nD (noCode_lst (xs := ps.map V.ref) (by rw [upd_ne (Ne.symm hpD)]; exact b1))
      · rw [List.nodup_append]
        exact ⟨a5, List.nodup_cons.mpr ⟨fun z => (nomatch z), .nil⟩, fun a ha b hb e => hpp (by rw [← List.mem_singleton.mp hb, ← e]; exact ha)⟩
      · rcases List.mem_append.mp hq with hq | hq
        · obtain ⟨c1, c2, c3⟩ := a6 q hq
          refine ⟨c1, c2, ?_⟩
          rw [upd_ne c2, upd_ne (fun z : q = p => hpp (by rw [← z]; exact hq))]
          exact k3 _ _ (sm _ _ c3) fun o => r1.there o c1
        · rw [List.mem_singleton.mp hq]
          exact ⟨pH1, hpD, by rw [upd_ne hpD, upd_same]⟩
    · have aH : ∀ b ∈ Dn :: ps, H b = none := fun b hb => by
        rcases List.mem_cons.mp hb with e | e
        · rw [e]; exact k1.alive r1 hD
        · exact k1.alive r1 (a6 b e).1
      have hb : ∀ b ∈ Dn :: ps, H0 b = none ∧ ¬ (F b ∨ (H b = none ∧ Hc b ≠ none ∧ b ∉ Dn :: ps)) ∧ Hc b ≠ none ∧ ∀ i, b ∉ A i := fun b hb => by
        refine ⟨E.keep.alive E.src (aH b hb), fun y => y.elim (fun y => E.fl b y (aH b hb)) fun y => y.2.2 hb, ?_, fun i hi => E.alive i b hi (aH b hb)⟩
        rcases List.mem_cons.mp hb with e | e
        · rw [e, a1]
          exact nofun
        · rw [(a6 b e).2.2]
          exact nofun
      obtain ⟨A2, E2⟩ := (E.grow (k1.trans a2) a3 fun b => b ∉ Dn :: ps).push (v := .ref Dn) (x := .own2 (List.replicate xs.length (.list []))) (as := Dn :: ps)
        ⟨Dn, ps, rfl, List.nodup_cons.mpr ⟨fun z => (a6 Dn z).2.1 rfl, a5⟩, rfl, a1, by
          rw [← a4]
          have gen : ∀ (R : Addr → Prop) (qs : List Addr), (∀ q ∈ qs, Hc q = some (.lst [])) → Paired (fun p d => OwnAt w R Hc p d) qs (List.replicate qs.length (.list [])) := by
            intro R qs
            induction qs with
            | nil => exact fun _ => .nil
            | cons p qs ih => exact fun f => .cons (.inl ⟨[], [], rfl, f p List.mem_cons_self, .nil⟩) (ih fun q hq => f q (List.mem_cons_of_mem _ hq))
          exact gen _ ps fun q hq => (a6 q hq).2.2⟩ hb
      obtain ⟨A3, E3⟩ := SR.move (τ := []) (π := []) (by simpa using E2) E.len hi
      exact ho _ Hc (fun b => F b ∨ (H b = none ∧ Hc b ≠ none ∧ b ∉ Dn :: ps)) A3 (by simpa using E3) (E.kg (k1.trans a2)) fun b z => Or.inl z
  · cases h2
theorem a_app2 {K : PySem.W.Frag} {i : Nat} {md : Mode} {k m : ME} {D : Ends} {σ : L2.St} {H : Hp} (h : tS w Φ (.app2 i md k m) D σ H) :
    tDrop (tBM K "list" rAppend (fun σ H Q => tVar i σ H fun o H1 => tE w Φ k σ H1 fun j H2 => ∃ l ps n z, o = .ref l ∧ j = .int n ∧ SqL K H2 l ps ∧ L2.atI ps n = some z ∧ Q z H2) (tCons (tM w Φ md m) tNil)) D σ H := by
  obtain ⟨g, G0, H0, F, A, ρ, s, r, E, hr, ho⟩ := h
  rw [run] at hr
  obtain ⟨⟨y, s1⟩, h1, h2⟩ := bind_some hr
  obtain ⟨⟨x, s2⟩, h3, h4⟩ := bind_some h2
  dsimp only at h4
  split at h4
  · rename_i ds j d hxs
    obtain ⟨n, h9, h10⟩ := bind_some h4
    split at h10
    · rename_i xs hdn
      split at h10
      · rename_i hz
        cases h10
        obtain ⟨l, ps, q1, q2, q3, q4, q5⟩ := E.slot i _ hxs
        refine ⟨_, q3, g, _, _, s, _, s1, SR.esR (τ := []) (π := []) (by simpa using E) E.len, h1, fun w' H2 p _ => ?_⟩
        obtain rfl := p.dat.intE
        have E3 := E.step p.keep p.src
        obtain ⟨l2, ps2, pa, r1, r2, rO, r3, r4, r5, r6, r7⟩ := E3.wrOwn2 (d' := .list (xs ++ [d])) hxs hdn
        rw [q3] at r1
        cases r1
        obtain ⟨us, u1, u2⟩ := own_isL r5
        refine ⟨_, ps2.map V.ref, j, .ref pa, rfl, rfl, SqL.of r2, ?_, .inl ⟨rfl, us, SqL.of u1⟩, ?_⟩
        · unfold L2.atI
          rw [List.length_map, r3, h9, Option.bind_some, List.getElem?_map, r4]
          rfl
        · refine ⟨g, G0, H0, F, A, [], ρ, [], s1, _, s2, by simpa using E3, E.len, h3, fun v' H3 F2 A2 E4 kg2 ff2 kp2 => ?_⟩
          have E4' := E4
          rw [List.nil_append, List.nil_append] at E4'
          obtain ⟨u, hu, hd⟩ := E4'.last E.len
          cases hu
          have E5 := E4'.pop E.len
          obtain ⟨l3, ps3, pb, t1, t2, _, t3, t4, t5, t6, t7⟩ := E5.wrOwn2 (d' := .list (xs ++ [d])) hxs hdn
          rw [q3] at t1
          cases t1
          have t8 := kp2 _ _ r2 rO
          rw [t2] at t8
          have t9 : (ps3.map V.ref)[n]? = (ps2.map V.ref)[n]? := congrArg (fun l : List V => l[n]?) (HO.lst.inj (Option.some.inj t8))
          rw [List.getElem?_map, List.getElem?_map, t4, r4] at t9
          cases t9
          obtain ⟨us, p5, p6⟩ := own_isL t5
          obtain ⟨p7, p8⟩ := t7 (.lst (us ++ [v'])) (own_lst t5.notup t6 (p6.append (.cons hd .nil)))
          have := p6.length
          exact ⟨_, us, v', rfl, rfl, p5, by omega, ho _ _ F2 A2 p8 ((E.kg p.keep).trans' (kg2.trans' p7 ff2) fun b z => z) ff2⟩
      · cases h10
    · cases h10
  · cases h4
theorem a_unpL {K : PySem.W.Frag} {i j : Nat} {md : Mode} {k m : ME} {D : Ends} {σ : L2.St} {H : Hp} (h : tS w Φ (.unpL i j md k m) D σ H) : tAsg (tM w Φ md m) (gTup K 2 (gCons (gSub (tVar i) (tE w Φ k) rSetL) (gCons (gName j) gNil))) D σ H := by
  obtain ⟨g, G0, H0, F, A, ρ, s, r, E, hr, ho⟩ := h
  rw [run] at hr
  obtain ⟨⟨x, s1⟩, h1, h2⟩ := bind_some hr
  obtain ⟨⟨y, s2⟩, h3, h4⟩ := bind_some h2
  dsimp only at h4
  split at h4
  · rename_i xs d1 d2 m' hxs
    obtain ⟨n, h5, h6⟩ := bind_some h4
    split at h6
    · rename_i hj
      cases h6
      refine ⟨g, G0, H0, F, A, [], ρ, [], s, _, s1, by simpa using E, E.len, h1, fun v' H1 F1 A1 E1 kg ff kp => ?_⟩
      have E1' := E1
      rw [List.nil_append, List.nil_append] at E1'
      obtain ⟨u, hu, hd⟩ := E1'.last E.len
      cases hu
      have E2 := E1'.pop E.len
      obtain ⟨p0, o, vs, rfl, e, nd, r⟩ := hd.tupE
      obtain ⟨x1, x2, rfl, c1, c2⟩ := r.two
      obtain ⟨a, q1, q2, q3⟩ := E2.slot i _ hxs
      refine ⟨p0, _, rfl, SqT.fz e, rfl, _, _, rfl, ?_⟩
      refine ⟨_, q2, g, _, _, s1, _, s2, SR.esR (τ := []) (π := []) (by simpa using E2) E.len, h3, fun w' H2 p _ => ?_⟩
      obtain rfl := p.dat.intE
      have E3 := E2.step p.keep p.src
      obtain ⟨b, p1, p2, p3, p4⟩ := E3.wrOwn (d' := .list (xs.set n d1)) hxs
      rw [q2] at p1
      cases p1
      obtain ⟨us, p5, p6⟩ := own_isL p2
      have hd1 := c1.keep p.keep E2.src E2.gok
      have hd2 := c2.keep p.keep E2.src E2.gok
      obtain ⟨p7, p8⟩ := p4 (.lst (us.set n x1)) (own_lst p2.notup p3 (dats_set hd1 p6 n))
      refine ⟨_, us, m', n, rfl, rfl, p5, by rw [p6.length]; exact h5, _, _, rfl, rfl, ?_⟩
      obtain ⟨A4, E4⟩ := p8.put (i := j) (v := x2) (d := d2) (by rw [List.length_set]; exact hj.1) (hd2.go (fun b o z e => ⟨p7.1 b o z e, z⟩) p7.2)
      exact ho _ _ _ _ E4 (kg.trans' ((E2.kg p.keep).trans' p7 fun b z => z) ff) ff
    · cases h6
  · cases h4
theorem a_appT {K : PySem.W.Frag} {i : Nat} {md : Mode} {m : ME} {D : Ends} {σ : L2.St} {H : Hp} (h : tS w Φ (.appT i md m) D σ H) :
    tDrop (tBM K "list" rAppend (fun σ H Q => tVar i σ H fun o H1 => tE w Φ (.k (.int 1)) σ H1 fun j H2 => ∃ l ps n z, o = .ref l ∧ j = .int n ∧ SqT K H2 l ps ∧ L2.atI ps n = some z ∧ Q z H2) (tCons (tM w Φ md m) tNil)) D σ H := by
  obtain ⟨g, G0, H0, F, A, ρ, s, r, E, hr, ho⟩ := h
  rw [run] at hr
  split at hr
  · rename_i d0 xs hxs
    obtain ⟨⟨x, s1⟩, h1, h2⟩ := bind_some hr
    dsimp only at h2
    split at h2
    · rename_i d
      split at h2
      · rename_i hz
        cases h2
        obtain ⟨a, q, ob, x0, q1, q2, q3, q4, q5, q6⟩ := E.slot i _ hxs
        refine ⟨_, q2, g, _, _, s, .int 1, s, SR.esR (τ := []) (π := []) (by simpa using E) E.len, by rw [ev], fun w' H2 p _ => ?_⟩
        obtain rfl := p.dat.intE
        have E3 := E.step p.keep p.src
        obtain ⟨a', q', ob', x0', r1, r2, r3, r4, r5, r6⟩ := E3.slot i _ hxs
        rw [q2] at r2
        cases r2
        obtain ⟨us, u1, u2⟩ := own_isL r6
        refine ⟨_, [x0', .ref q'], 1, .ref q', rfl, rfl, SqT.fz r3, rfl, .inl ⟨rfl, us, SqL.of u1⟩, ?_⟩
        refine ⟨g, G0, H0, F, A, [], ρ, [], s, _, s1, by simpa using E3, E.len, h1, fun v' H3 F2 A2 E4 kg2 ff2 kp2 => ?_⟩
        have E4' := E4
        rw [List.nil_append, List.nil_append] at E4'
        obtain ⟨u, hu, hd⟩ := E4'.last E.len
        cases hu
        have E5 := E4'.pop E.len
        obtain ⟨a2, qq, ob2, x2, t1, t2, t3, t4, t5, t6, t7⟩ := E5.wrPr (ys := xs ++ [d]) hxs
        rw [q2] at t1
        cases t1
        have t8 := E3.kgt kp2 _ _ _ r3
        rw [t2] at t8
        cases t8
        obtain ⟨us, p5, p6⟩ := own_isL t5
        obtain ⟨p7, p8⟩ := t7 (.lst (us ++ [v'])) (own_lst t5.notup t6 (p6.append (.cons hd .nil)))
        have := p6.length
        exact ⟨_, us, v', rfl, rfl, p5, by omega, ho _ _ F2 A2 p8 ((E.kg p.keep).trans' (kg2.trans' p7 ff2) fun b z => z) ff2⟩
      · cases h2
    · cases h2
  · cases hr
theorem a_forO {K : PySem.W.Frag} {i : Nat} {t : MT} {k : ME} {b : MSs} {D : Ends} {σ : L2.St} {H : Hp} (h : tS w Φ (.forO t i k b) D σ H) :
    tFor (iList K (fun σ H Q => tVar i σ H fun o H1 => tE w Φ k σ H1 fun j H2 => ∃ l ps n z, o = .ref l ∧ j = .int n ∧ SqL K H2 l ps ∧ L2.atI ps n = some z ∧ Q z H2)) (gM K t) (tSs w Φ b) D σ H := by
  obtain ⟨g, G0, H0, F, A, ρ, s, r, E, hr, ho⟩ := h
  have nw : newM Φ.l (.forO t i k b) = newMs Φ.l b := rfl
  rw [nw] at ho
  rw [run] at hr
  split at hr
  · rename_i xs hxs
    obtain ⟨⟨y, s1⟩, h1, h2⟩ := bind_some hr
    dsimp only at h2
    split at h2
    · rename_i j
      obtain ⟨n, h3, h4⟩ := bind_some h2
      split at h4
      · rename_i ys hdn
        obtain ⟨a, q1, q2, q3⟩ := E.slot i _ hxs
        refine ⟨_, q2, g, _, _, s, _, s1, SR.esR (τ := []) (π := []) (by simpa using E) E.len, h1, fun w' H2 p _ => ?_⟩
        obtain rfl := p.dat.intE
        have E3 := E.step p.keep p.src
        obtain ⟨a', r1, r2, r3⟩ := E3.slot i _ hxs
        rw [q2] at r2
        cases r2
        obtain ⟨us, u1, u2⟩ := own_isL r3
        have hat : L2.atI xs j = some (.list ys) := by
          unfold L2.atI
          rw [h3, Option.bind_some]
          exact hdn
        obtain ⟨z, z1, z2⟩ := u2.atI hat
        obtain ⟨q, vs, rfl, gq, eq, rq⟩ := z2.listE
        exact ⟨_, us, j, .ref q, rfl, rfl, SqL.of u1, z1, q, rfl, ⟨vs, SqL.of eq⟩, for_core (pr := false) E p.keep p.src (it_list ⟨.inl gq, eq ▸ nofun⟩ eq (rq.live.mono fun b z => ⟨.inl z.1, z.2⟩)) (fun z => nomatch z) h4 ho⟩
      · cases h4
    · cases h2
  · cases hr
end
end Os
end
section
set_option linter.all false
set_option maxRecDepth 100000
set_option maxHeartbeats 4000000
/-! OsS: statements of the program's text against the small language's; their soundness. -/
namespace Os
open PySem PySem.Spec PyProof.Rows L2

def sgnOp : Bool → Operator
  | true => .Sub
  | false => .Add
/-- plain names as targets -/
inductive TrNs (N : List Str) (sc : Scope) : List Expr → List Nat → Prop
  | nil : TrNs N sc [] []
  | cons {i : Nat} {x : Str} {p : Pos} {ts : List Expr} {is : List Nat} : N[i]? = some x → Loc sc x → TrNs N sc ts is → TrNs N sc (.Name x p :: ts) (i :: is)
inductive TrMs (Φ : List FE) (gk : List (Str × D)) (lb : Bool) (N : List Str) (sc : Scope) : List Expr → List Mode → MEs → Prop
  | nil : TrMs Φ gk lb N sc [] [] .nil
  | cons {e : Expr} {es : List Expr} {m : ME} {mds : List Mode} {ms : MEs} (md : Mode) : TrE Φ gk lb N sc e m → TrMs Φ gk lb N sc es mds ms → TrMs Φ gk lb N sc (e :: es) (md :: mds) (.cons m ms)
theorem TrNs.len {N : List Str} {sc : Scope} : ∀ {ts : List Expr} {is : List Nat}, TrNs N sc ts is → ∀ env, (assignEach ts env).length = is.length
  | _, _, .nil, env => rfl
  | _, _, .cons _ _ r, env => congrArg (· + 1) (r.len env)
theorem TrNs.nost {N : List Str} {sc : Scope} : ∀ {ts : List Expr} {is : List Nat}, TrNs N sc ts is → ∀ env, (assignEach ts env).findIdx? (·.1) = none
  | _, _, .nil, env => rfl
  | _, _, .cons (x := x) (p := p) (ts := ts) _ _ r, env => by
    have h : assignEach (.Name x p :: ts) env = (false, assign (.Name x p) env) :: assignEach ts env := rfl
    rw [h, List.findIdx?_cons]
    simp [r.nost env]
theorem TrNs.pg {X : Cx} {N : List Str} {sc : Scope} (nd : X.N.Nodup) (fn : ∀ x, X.fn x = true) (hN : X.N = N) (hs : X.env.scope = sc) : ∀ {ts : List Expr} {is : List Nat}, TrNs N sc ts is → PGs X ts (gNs is)
  | _, _, .nil => pgs_nil
  | _, _, .cons h1 h2 r => pgs_cons (pg_name nd (by rw [hN]; exact h1) (by rw [hs]; exact h2) (.inl (fn _))) (r.pg nd fn hN hs) rfl
/-- a store to a place, its parts in the plain order -/
structure SubOk (o i : Expr) (sp : Pos) (v : Expr) (pos : Pos) : Prop where
  go : ∀ env u, assign (.Subscript o i sp) env u = (do
      let ov ← holding [u] (eval o env)
      let iv ← holding [u, ov] (eval i env)
      standAt sp
      holding [u, ov, iv] (setItem ov iv u)
      release [u, ov, iv] [])
  sw : ∀ env, swapsWithSole [.Subscript o i sp] v pos.line env = pure false
  st : ∀ env, swappedStores [.Subscript o i sp] v env = pure none
  one : ∀ env, (assignEach [.Subscript o i sp] env).map (·.2) = [assign (.Subscript o i sp) env]
mutual
inductive TrS (Φ : List FE) (gk : List (Str × D)) (lb : Bool) (N : List Str) (sc : Scope) : Stmt → MS → Prop
  | set {i : Nat} {x : Str} {e : Expr} {m : ME} {p pos : Pos} (md : Mode) : N[i]? = some x → Loc sc x → TrE Φ gk lb N sc e m → (∀ env, swapsWith e (some (.Name x p)) pos.line env = pure false) → TrS Φ gk lb N sc (.Assign [.Name x p] e pos) (.set i md m)
  | setL {i : Nat} {x : Str} {elt : Expr} {gs : List Comprehension} {scope : Scope} {m : ME} {p cpos pos : Pos} (md : Mode) : N[i]? = some x → sc.names.lookup x = some .local → TrE Φ gk lb N sc (.ListComp elt gs scope cpos) m → (p.line == cpos.line) = true →
      (scope.names.any fun (n, k) => n == x && (k == .local || k == .cell)) = false → md ≠ .q → TrS Φ gk lb N sc (.Assign [.Name x p] (.ListComp elt gs scope cpos) pos) (.set i md m)
  | setC {i : Nat} {x : Str} {elt : Expr} {gs : List Comprehension} {scope : Scope} {m : ME} {p cpos pos : Pos} (md : Mode) : N[i]? = some x → sc.names.lookup x = some .cell → TrE Φ gk lb N sc (.ListComp elt gs scope cpos) m → TrS Φ gk lb N sc (.Assign [.Name x p] (.ListComp elt gs scope cpos) pos) (.set i md m)
  | par2 {i j : Nat} {x y : Str} {a b : Expr} {ma mb : ME} {px py pt pt2 pos : Pos} {kt k2 : Nat} (m1 m2 : Mode) : N[i]? = some x → N[j]? = some y → i ≠ j → (x == y) = false → sc.names.lookup x = some .local → sc.names.lookup y = some .local → (px.line == py.line) = true →
      TrE Φ gk lb N sc a ma → TrE Φ gk lb N sc b mb → (foldedForSure 8 a && foldedForSure 8 b) = false → (constantsAlone 8 a && constantsAlone 8 b) = false →
      TrS Φ gk lb N sc (.Assign [.Tuple [.Name x px, .Name y py] kt pt] (.Tuple [a, b] k2 pt2) pos) (.par2 i j m1 m2 ma mb)
  | par2O {i j : Nat} {x y : Str} {a b : Expr} {ma mb : ME} {px py pt pt2 pos : Pos} {kt k2 : Nat} (m1 m2 : Mode) : N[i]? = some x → N[j]? = some y → Loc sc x → Loc sc y →
      (sc.names.lookup x == some .local && sc.names.lookup y == some .local && !(foldedForSure 8 a && foldedForSure 8 b)) = false →
      TrE Φ gk lb N sc a ma → TrE Φ gk lb N sc b mb → TrS Φ gk lb N sc (.Assign [.Tuple [.Name x px, .Name y py] kt pt] (.Tuple [a, b] k2 pt2) pos) (.par2 i j m1 m2 ma mb)
  | unp {tg e : Expr} {t : MT} {m : ME} {pos : Pos} (md : Mode) : TrT N (fun _ => true) sc tg t → TrE Φ gk lb N sc e m → (∀ env, swapsWithSole [tg] e pos.line env = pure false) → (∀ env, swappedStores [tg] e env = pure none) → TrS Φ gk lb N sc (.Assign [tg] e pos) (.unp t md m)
  | app {i : Nat} {x : Str} {e : Expr} {m : ME} {p ap cp pos : Pos} (md : Mode) : N[i]? = some x → Vis sc x → (x == ("__debug__" : Str)) = false → (x == ("__classdict__" : Str)) = false → TrE Φ gk lb N sc e m → (ap.endLine == cp.line) = true →
      TrS Φ gk lb N sc (.Expr (.Call (.Attribute (.Name x p) "append" ap) [e] [] cp) pos) (.app i md m)
  | ret {e : Expr} {m : ME} {pos : Pos} : TrE Φ gk lb N sc e m → TrS Φ gk lb N sc (.Return (some e) pos) (.ret m)
  | retO {i : Nat} {x : Str} {p pos : Pos} : N[i]? = some x → Vis sc x → (x == ("__debug__" : Str)) = false → (x == ("__classdict__" : Str)) = false → TrS Φ gk lb N sc (.Return (some (.Name x p)) pos) (.retO i)
  | ite {c : Expr} {a b : List Stmt} {mc : ME} {ma mb : MSs} {pos : Pos} : TrE Φ gk lb N sc c mc → TrSs Φ gk lb N sc a ma → TrSs Φ gk lb N sc b mb → TrS Φ gk lb N sc (.If c a b pos) (.ite mc ma mb)
  | for_ {tg iter : Expr} {b : List Stmt} {t : MT} {it : MI} {mb : MSs} {pos : Pos} : TrT N (fun _ => true) sc tg t → TrI Φ gk lb N sc (isTup tg) iter it → TrSs Φ gk lb N sc b mb → (∀ env x, foldedSetIterable iter env x = pure x) → TrS Φ gk lb N sc (.For tg iter b [] pos) (.for_ t it mb)
  | wh {c : Expr} {b : List Stmt} {mc : ME} {mb : MSs} {pos : Pos} : TrE Φ gk lb N sc c mc → TrSs Φ gk lb N sc b mb → TrS Φ gk lb N sc (.While c b [] pos) (.wh mc mb)
  | par3 {i j l : Nat} {x y z : Str} {a b c : Expr} {px py pz pt pt2 pos : Pos} {kt k2 : Nat} {mds : List Mode} {ms : MEs} : N[i]? = some x → N[j]? = some y → N[l]? = some z → i ≠ j → i ≠ l → j ≠ l → sc.names.lookup x = some .local → sc.names.lookup y = some .local → sc.names.lookup z = some .local → TrMs Φ gk lb N sc [a, b, c] mds ms →
      (∀ env : Env, env.scope = sc → env.scope.kind = .function → swappedStores [.Tuple [.Name x px, .Name y py, .Name z pz] kt pt] (.Tuple [a, b, c] k2 pt2) env = pure (some [x, y, z])) → TrS Φ gk lb N sc (.Assign [.Tuple [.Name x px, .Name y py, .Name z pz] kt pt] (.Tuple [a, b, c] k2 pt2) pos) (.par [i, j, l] mds ms)
  | parN {ts es : List Expr} {is : List Nat} {mds : List Mode} {ms : MEs} {pt pt2 pos : Pos} {kt k2 : Nat} : TrNs N sc ts is → TrMs Φ gk lb N sc es mds ms → is.length ≤ 100 → (∀ env : Env, env.scope = sc → swappedStores [.Tuple ts kt pt] (.Tuple es k2 pt2) env = pure none) → (∀ env, swapsWithSole [.Tuple ts kt pt] (.Tuple es k2 pt2) pos.line env = pure false) →
      (∀ env, (assignEach [.Tuple ts kt pt] env).map (·.2) = [assign (.Tuple ts kt pt) env]) → TrS Φ gk lb N sc (.Assign [.Tuple ts kt pt] (.Tuple es k2 pt2) pos) (.par is mds ms)
  | brk {pos : Pos} : TrS Φ gk lb N sc (.Break pos) .brk
  | cnt {pos : Pos} : TrS Φ gk lb N sc (.Continue pos) .cnt
  | pass {pos : Pos} : TrS Φ gk lb N sc (.Pass pos) .pass
  | doc {x : Str} {j : Nat} {p pos : Pos} : TrS Φ gk lb N sc (.Expr (.Constant (.str x) j p) pos) .pass
  | bad {st : Stmt} : TrS Φ gk lb N sc st .bad
  | drop {e : Expr} {m : ME} {pos : Pos} : TrE Φ gk lb N sc e m → (∀ env, swapsWith e none pos.line env = pure false) → TrS Φ gk lb N sc (.Expr e pos) (.drop m)
  | spoil {i j : Nat} {x y : Str} {p1 p2 p3 p4 ap cp ep pos : Pos} {k : Nat} : N[i]? = some x → N[j]? = some y → Vis sc x → Loc sc y → (x == ("__debug__" : Str)) = false → (x == ("__classdict__" : Str)) = false → (y == ("__debug__" : Str)) = false → (y == ("__classdict__" : Str)) = false → (ap.endLine == cp.line) = true →
      TrS Φ gk lb N sc (.For (.Name y p1) (.Name x p2) [.Expr (.Call (.Attribute (.Name y p3) "append" ap) [.Constant .none k p4] [] cp) ep] [] pos) (.spoil i j)
  | ext {i : Nat} {x : Str} {e : Expr} {m : ME} {p pos : Pos} : N[i]? = some x → Loc sc x → TrE Φ gk lb N sc e m → TrS Φ gk lb N sc (.AugAssign (.Name x p) .Add e pos) (.ext i m)
  | aug {i : Nat} {x : Str} {e : Expr} {m : ME} {p pos : Pos} (sb : Bool) : N[i]? = some x → Loc sc x → TrE Φ gk lb N sc e m → TrS Φ gk lb N sc (.AugAssign (.Name x p) (sgnOp sb) e pos) (.aug i sb m)
  | lput {i : Nat} {x : Str} {k v : Expr} {mk mv : ME} {p sp pos : Pos} (md : Mode) : N[i]? = some x → Vis sc x → (x == ("__debug__" : Str)) = false → (x == ("__classdict__" : Str)) = false → TrE Φ gk lb N sc k mk → TrE Φ gk lb N sc v mv → SubOk (.Name x p) k sp v pos → TrS Φ gk lb N sc (.Assign [.Subscript (.Name x p) k sp] v pos) (.lput i md mk mv)
  | dput {i : Nat} {x : Str} {k v : Expr} {mk mv : ME} {p sp pos : Pos} (md : Mode) : N[i]? = some x → Vis sc x → (x == ("__debug__" : Str)) = false → (x == ("__classdict__" : Str)) = false → TrE Φ gk lb N sc k mk → TrE Φ gk lb N sc v mv → SubOk (.Name x p) k sp v pos → TrS Φ gk lb N sc (.Assign [.Subscript (.Name x p) k sp] v pos) (.dput i md mk mv)
  | dput2 {i : Nat} {x : Str} {a k v : Expr} {ma mk mv : ME} {p ap sp pos : Pos} (md : Mode) : N[i]? = some x → Vis sc x → (x == ("__debug__" : Str)) = false → (x == ("__classdict__" : Str)) = false → TrE Φ gk lb N sc a ma → PlainIx a → TrE Φ gk lb N sc k mk → TrE Φ gk lb N sc v mv → SubOk (.Subscript (.Name x p) a ap) k sp v pos →
      TrS Φ gk lb N sc (.Assign [.Subscript (.Subscript (.Name x p) a ap) k sp] v pos) (.dput2 i md ma mk mv)
  | news {i j : Nat} {x y : Str} {iter : Expr} {scope : Scope} {own : List (Str × Nat)} {it : MI} {p yp lp cpos pos : Pos} : N[i]? = some x → sc.names.lookup x = some .local → blkC N sc scope own = true → TrT N (fun x => scope.names.lookup x == some .cell) (relS scope sc) (.Name y yp) (.nm j) → (own.map (·.2)).contains j = true → TrI Φ gk lb N sc false iter it →
      (∀ env x, foldedSetIterable iter env x = pure x) → (p.line == cpos.line) = true → (scope.names.any fun (n, k) => n == x && (k == .local || k == .cell)) = false → TrS Φ gk lb N sc (.Assign [.Name x p] (.ListComp (.List [] lp) [⟨.Name y yp, iter, [], 0⟩] scope cpos) pos) (.news i j it)
  | app2 {i : Nat} {x : Str} {k e : Expr} {mk m : ME} {p sp ap cp pos : Pos} (md : Mode) : N[i]? = some x → Vis sc x → (x == ("__debug__" : Str)) = false → (x == ("__classdict__" : Str)) = false → TrE Φ gk lb N sc k mk → PlainIx k → TrE Φ gk lb N sc e m → (ap.endLine == cp.line) = true →
      TrS Φ gk lb N sc (.Expr (.Call (.Attribute (.Subscript (.Name x p) k sp) "append" ap) [e] [] cp) pos) (.app2 i md mk m)
  | extT {i : Nat} {x : Str} {e : Expr} {m : ME} {p ap cp pos : Pos} : N[i]? = some x → Vis sc x → (x == ("__debug__" : Str)) = false → (x == ("__classdict__" : Str)) = false → TrE Φ gk lb N sc e m → (ap.endLine == cp.line) = true →
      TrS Φ gk lb N sc (.Expr (.Call (.Attribute (.Name x p) "extend" ap) [e] [] cp) pos) (.extT i m)
  | unpL {i j : Nat} {x y : Str} {k e : Expr} {mk m : ME} {p sp yp tp pos : Pos} {kt : Nat} (md : Mode) : N[i]? = some x → Vis sc x → (x == ("__debug__" : Str)) = false → (x == ("__classdict__" : Str)) = false → N[j]? = some y → Loc sc y → TrE Φ gk lb N sc k mk → TrE Φ gk lb N sc e m →
      (∀ env u, assign (.Subscript (.Name x p) k sp) env u = (do
        let ov ← holding [u] (eval (.Name x p) env)
        let iv ← holding [u, ov] (eval k env)
        standAt sp
        holding [u, ov, iv] (setItem ov iv u)
        release [u, ov, iv] [])) → (∀ env, swapsWithSole [.Tuple [.Subscript (.Name x p) k sp, .Name y yp] kt tp] e pos.line env = pure false) → (∀ env, swappedStores [.Tuple [.Subscript (.Name x p) k sp, .Name y yp] kt tp] e env = pure none) →
      TrS Φ gk lb N sc (.Assign [.Tuple [.Subscript (.Name x p) k sp, .Name y yp] kt tp] e pos) (.unpL i j md mk m)
  | appT {i j : Nat} {x : Str} {e : Expr} {m : ME} {p p1 sp ap cp pos : Pos} (md : Mode) : N[i]? = some x → Vis sc x → (x == ("__debug__" : Str)) = false → (x == ("__classdict__" : Str)) = false → PlainIx (.Constant (.int 1) j p1) → TrE Φ gk lb N sc e m → (ap.endLine == cp.line) = true →
      TrS Φ gk lb N sc (.Expr (.Call (.Attribute (.Subscript (.Name x p) (.Constant (.int 1) j p1) sp) "append" ap) [e] [] cp) pos) (.appT i md m)
  | forO {tg k : Expr} {x : Str} {i : Nat} {t : MT} {mk : ME} {b : List Stmt} {mb : MSs} {p sp pos : Pos} : TrT N (fun _ => true) sc tg t → N[i]? = some x → Vis sc x → (x == ("__debug__" : Str)) = false → (x == ("__classdict__" : Str)) = false → TrE Φ gk lb N sc k mk → PlainIx k → TrSs Φ gk lb N sc b mb → (∀ env y, foldedSetIterable (.Subscript (.Name x p) k sp) env y = pure y) →
      TrS Φ gk lb N sc (.For tg (.Subscript (.Name x p) k sp) b [] pos) (.forO t i mk mb)
inductive TrSs (Φ : List FE) (gk : List (Str × D)) (lb : Bool) (N : List Str) (sc : Scope) : List Stmt → MSs → Prop
  | nil : TrSs Φ gk lb N sc [] .nil
  | cons {st : Stmt} {r : List Stmt} {m : MS} {ms : MSs} : TrS Φ gk lb N sc st m → TrSs Φ gk lb N sc r ms → TrSs Φ gk lb N sc (st :: r) (.cons m ms)
  | frz {r : List Stmt} {ms : MSs} (i : Nat) : TrSs Φ gk lb N sc r ms → TrSs Φ gk lb N sc r (.cons (.frz i) ms)
end

theorem TrT.up {N : List Str} {fn fn' : Str → Bool} {sc : Scope} (h : ∀ x, fn' x = true) : ∀ {e : Expr} {t : MT}, TrT N fn sc e t → TrT N fn' sc e t
  | _, _, .nm h1 h2 h3 => .nm h1 h2 (.inl (h _))
  | _, _, .two a b => .two (a.up h) (b.up h)
  | _, _, .three a b c => .three (a.up h) (b.up h) (c.up h)
  | _, _, .four a b c d => .four (a.up h) (b.up h) (c.up h) (d.up h)
  | _, _, .sixL a b c d e f => .sixL (a.up h) (b.up h) (c.up h) (d.up h) (e.up h) (f.up h)
theorem TrE.nst {Φ : List FE} {gk : List (Str × D)} {lb : Bool} {N : List Str} {sc : Scope} {e : Expr} {m : ME} (h : TrE Φ gk lb N sc e m) : isStar e = false := by
  cases h <;> first | rfl | assumption

/-! ### how the text's assignments are stored -/
theorem sw_cell {elt : Expr} {gs : List Comprehension} {scope : Scope} {pos py : Pos} {y : Str} {l : Nat} {env : Env} (hy : env.scope.names.lookup y = some .cell) : swapsWith (.ListComp elt gs scope pos) (some (.Name y py)) l env = pure false := by
  have ky : env.kindOf y = some .cell := hy
  unfold swapsWith
  simp only [ky]
  have e : ((some NameKind.cell : Option NameKind) == some NameKind.local) = false := rfl
  rw [e, Bool.and_false, Bool.false_and, Bool.false_and]
theorem sw2_yes {env : Env} {x y : Str} {px py pt pt2 : Pos} {kt k2 : Nat} {a b : Expr} (hk : env.scope.kind = .function) (hx : env.scope.names.lookup x = some .local) (hy : env.scope.names.lookup y = some .local) (hl : (px.line == py.line) = true) (hne : (x == y) = false)
    (na : isStar a = false) (nb : isStar b = false) (hf : (foldedForSure 8 a && foldedForSure 8 b) = false) (hc : (constantsAlone 8 a && constantsAlone 8 b) = false) :
    swappedStores [.Tuple [.Name x px, .Name y py] kt pt] (.Tuple [a, b] k2 pt2) env = pure (some [x, y]) := by
  have kx : env.kindOf x = some .local := hx
  have ky : env.kindOf y = some .local := hy
  have hb : env.blockKind = .function := by unfold Env.blockKind; rw [hk]; rfl
  have hl' : py.line == px.line := by
    have := eq_of_beq hl
    rw [this]
    exact beq_self_eq_true _
  have hyx : (y == x) = false := by
    cases q : y == x with
    | false => rfl
    | true =>
      rw [eq_of_beq q] at hne
      simp at hne
  have e1 : [a, b].any isStar = false := by
    simp only [List.any_cons, List.any_nil, Bool.or_false]
    rw [Bool.or_eq_false_iff]
    exact ⟨na, nb⟩
  have e2 : [a, b].all (foldedForSure 8) = false := by simpa using hf
  have e3 : [a, b].all (constantsAlone 8) = false := by simpa using hc
  have e5 : [x, y].eraseDups.length = 2 := by
    simp [List.eraseDups_cons, hyx, List.filter]
  unfold swappedStores
  refine (if_neg ?_).trans ?_
  · simp [hb]
  refine (if_neg ?_).trans ?_
  · exact fun h => Bool.noConfusion (e1.symm.trans h)
  refine (if_neg ?_).trans ?_
  · simp [kx, ky, Expr.pos, hl', eq_of_beq hl', e5]
  refine (if_neg ?_).trans ?_
  · rw [e2]
    exact Bool.false_ne_true
  refine (if_neg ?_).trans ?_
  · rw [e3]
    exact Bool.false_ne_true
  · have ep : ([Expr.Name x px, Expr.Name y py].head?.map (·.pos.line)).getD 0 = px.line := rfl
    simp [kx, ky, Expr.pos, hl', eq_of_beq hl']
theorem ite_none {c : Prop} [Decidable c] {a : Sem (Option (List Str))} (h : ¬ c → a = pure none) : (if c then pure none else a) = pure none := by
  by_cases q : c
  · rw [if_pos q]
  · rw [if_neg q]
    exact h q
theorem sw2_no {env : Env} {x y : Str} {px py pt pt2 : Pos} {kt k2 : Nat} {a b : Expr} (h : (env.scope.names.lookup x == some .local && env.scope.names.lookup y == some .local && !(foldedForSure 8 a && foldedForSure 8 b)) = false) :
    swappedStores [.Tuple [.Name x px, .Name y py] kt pt] (.Tuple [a, b] k2 pt2) env = pure none := by
  have hx : env.kindOf x = env.scope.names.lookup x := rfl
  have hy : env.kindOf y = env.scope.names.lookup y := rfl
  unfold swappedStores
  refine ite_none fun _ => ite_none fun _ => ite_none fun h3 => ite_none fun h4 => ?_
  exfalso
  rw [← hx, ← hy] at h
  have h4' : (foldedForSure 8 a && foldedForSure 8 b) = false := by simpa using h4
  rw [h4'] at h
  have q : (env.kindOf x == some .local) = false ∨ (env.kindOf y == some .local) = false := by
    cases q1 : env.kindOf x == some NameKind.local with
    | false => exact .inl rfl
    | true =>
      cases q2 : env.kindOf y == some NameKind.local with
      | false => exact .inr rfl
      | true =>
        rw [q1, q2] at h
        cases h
  apply h3
  rcases q with q | q
  · have e : ∀ l : List Str, (l.length = 2 → False) → (l.length != [Expr.Name x px, Expr.Name y py].length || l.eraseDups.length != l.length) = true := fun l hl => by
      rw [Bool.or_eq_true]
      left
      simpa using hl
    apply e
    simp only [List.filterMap_cons, List.filterMap_nil, q, Bool.false_and, Bool.false_eq_true, if_false]
    intro z
    split at z <;> simp at z
  · have e : ∀ l : List Str, (l.length = 2 → False) → (l.length != [Expr.Name x px, Expr.Name y py].length || l.eraseDups.length != l.length) = true := fun l hl => by
      rw [Bool.or_eq_true]
      left
      simpa using hl
    apply e
    simp only [List.filterMap_cons, List.filterMap_nil, q, Bool.false_and, Bool.false_eq_true, if_false]
    intro z
    split at z <;> simp at z

theorem fm3 {α β : Type} {f : α → Option β} {a b c : α} (h : (List.filterMap f [a, b, c]).length = 3) : (f a).isSome ∧ (f b).isSome ∧ (f c).isSome := by
  cases ha : f a <;> cases hb : f b <;> cases hc : f c <;> simp [List.filterMap_cons, ha, hb, hc] at h ⊢
theorem ite_isSome {α : Type} {c : Prop} [Decidable c] {x : α} (h : ((if c then some x else none) : Option α).isSome) : c := by
  by_cases q : c
  · exact q
  · rw [if_neg q] at h
    cases h
theorem sw3_no {env : Env} {x y z : Str} {px py pz pt pt2 : Pos} {kt k2 : Nat} {a b c : Expr} (h : (env.scope.names.lookup x == some .local && env.scope.names.lookup y == some .local && env.scope.names.lookup z == some .local) = false) :
    swappedStores [.Tuple [.Name x px, .Name y py, .Name z pz] kt pt] (.Tuple [a, b, c] k2 pt2) env = pure none := by
  have hx : env.kindOf x = env.scope.names.lookup x := rfl
  have hy : env.kindOf y = env.scope.names.lookup y := rfl
  have hz : env.kindOf z = env.scope.names.lookup z := rfl
  unfold swappedStores
  refine ite_none fun _ => ite_none fun _ => ite_none fun h3 => ?_
  exfalso
  rw [← hx, ← hy, ← hz] at h
  apply h3
  have e : ∀ l : List Str, (l.length = 3 → False) → (l.length != [Expr.Name x px, Expr.Name y py, Expr.Name z pz].length || l.eraseDups.length != l.length) = true := fun l hl => by
    rw [Bool.or_eq_true]
    left
    simpa using hl
  apply e
  intro q
  obtain ⟨p1, p2, p3⟩ := fm3 q
  dsimp only at p1 p2 p3
  have w1 := ite_isSome p1
  have w2 := ite_isSome p2
  have w3 := ite_isSome p3
  rw [Bool.and_eq_true] at w1 w2 w3
  rw [w1.1, w2.1, w3.1] at h
  cases h
theorem sw3_yes {env : Env} {x y z : Str} {px py pz pt pt2 : Pos} {kt k2 : Nat} {a b c : Expr} (hk : env.scope.kind = .function) (hx : env.scope.names.lookup x = some .local) (hy : env.scope.names.lookup y = some .local) (hz : env.scope.names.lookup z = some .local) (hl : (px.line == py.line) = true) (hl2 : (px.line == pz.line) = true) (hxy : (x == y) = false) (hxz : (x == z) = false) (hyz : (y == z) = false)
    (na : isStar a = false) (nb : isStar b = false) (nc : isStar c = false) (hf : [a, b, c].all (foldedForSure 8) = false) (hc : [a, b, c].all (constantsAlone 8) = false) :
    swappedStores [.Tuple [.Name x px, .Name y py, .Name z pz] kt pt] (.Tuple [a, b, c] k2 pt2) env = pure (some [x, y, z]) := by
  have kx : env.kindOf x = some .local := hx
  have ky : env.kindOf y = some .local := hy
  have kz : env.kindOf z = some .local := hz
  have hb : env.blockKind = .function := by unfold Env.blockKind; rw [hk]; rfl
  have sym : ∀ {u v : Str}, (u == v) = false → (v == u) = false := fun {u v} h => by
    cases q : v == u with
    | false => rfl
    | true =>
      rw [eq_of_beq q] at h
      simp at h
  have e1 : [a, b, c].any isStar = false := by simp [na, nb, nc]
  have hl' : px.line = py.line := eq_of_beq hl
  have hz' : pz.line = py.line := (eq_of_beq hl2).symm.trans hl'
  have e5 : [x, y, z].eraseDups.length = 3 := by
    simp [List.eraseDups_cons, sym hxy, sym hxz, sym hyz, List.filter]
  unfold swappedStores
  refine (if_neg ?_).trans ?_
  · simp [hb]
  refine (if_neg ?_).trans ?_
  · exact fun h => Bool.noConfusion (e1.symm.trans h)
  refine (if_neg ?_).trans ?_
  · simp [kx, ky, kz, Expr.pos, hl', hz', e5]
  refine (if_neg ?_).trans ?_
  · rw [hf]
    exact Bool.false_ne_true
  refine (if_neg ?_).trans ?_
  · rw [hc]
    exact Bool.false_ne_true
  · simp [kx, ky, kz, Expr.pos, hl', hz']
section
variable {w : World} {g : GS T} {G0 : Addr → Prop} {H0 : Hp} {F : Addr → Prop} {A : Nat → List Addr} {σ : L2.St} {H : Hp} {ρ : LSS} {s : S1}
/-- a list of a slot that is no longer known is written -/
theorem SR.wr (E : SR w g G0 H0 F A σ H ρ s) {i : Nat} {p : Addr} {vs us : List V} (hp : p ∈ A i) (hi : ρ[i]? = some .un) (e : H p = some (.lst vs)) : SR w g G0 H0 F A σ (upd H p (.lst us)) ρ s ∧ KeepG F H (upd H p (.lst us)) := by
  have hn := E.new i p hp
  have et : ∀ o xs, H p ≠ some (.frz o (.tup xs)) := fun o xs z => by rw [e] at z; cases z
  refine ⟨⟨E.src0, E.sub, E.gok, fun b o q n => upd_keep (ne_of_none q hn.1) (E.keep b o q n), E.src.upd (E.nown hp) (noCode_lst e), E.len, fun j x q => ?_, E.new, E.dis, fun j b hb q => ?_, fun b hb q => ?_⟩, kg_wr et hn.2⟩
  · by_cases hj : i = j
    · subst hj
      rw [hi] at q
      cases q
      exact trivial
    · exact (E.slot j x q).wr (fun o xs z => by rw [e] at z; cases z) hn.2 fun z => hj (E.dis i j p hp z)
  · by_cases hb' : b = p
    · rw [hb', upd_same] at q
      cases q
    · rw [upd_ne hb'] at q
      exact E.alive j b hb q
  · by_cases hb' : b = p
    · rw [hb', upd_same] at q
      cases q
    · rw [upd_ne hb'] at q
      exact E.fl b hb q
theorem SR.forget {i : Nat} (E : SR w g G0 H0 F A σ H ρ s) : SR w g G0 H0 F A σ H (ρ.set i .un) s :=
  ⟨E.src0, E.sub, E.gok, E.keep, E.src, by rw [List.length_set, E.len], fun j y e => by
    by_cases hj : i = j
    · subst hj
      by_cases hl : i < ρ.length
      · rw [List.getElem?_set_self hl] at e
        cases e
        exact trivial
      · rw [List.getElem?_eq_none (by rw [List.length_set]; omega)] at e
        cases e
    · rw [List.getElem?_set_ne hj] at e
      exact E.slot j y e, E.new, E.dis, E.alive, E.fl⟩
theorem paired_mem {α β : Type} {R : α → β → Prop} {P : β → Prop} : ∀ {l : List α} {m : List β}, Paired R l m → (∀ y ∈ m, P y) → ∀ x ∈ l, ∃ y, R x y ∧ P y
  | _, _, .nil, _, x, h => nomatch h
  | _, _, .cons r t, f, x, h => by
    rcases List.mem_cons.mp h with e | e
    · subst e
      exact ⟨_, r, f _ List.mem_cons_self⟩
    · exact paired_mem t (fun y hy => f y (List.mem_cons_of_mem _ hy)) x e
theorem a_spoil {K : PySem.W.Frag} {Φ : Fs} {i j : Nat} {D : Ends} (h : tS w Φ (.spoil i j) D σ H) : tFor (iList K (tVar i)) (gName j) (tDrop (tBM K "list" rAppend (tVar j) (tCons (tC .non) tNil))) D σ H := by
  obtain ⟨g, G0, H0, F, A, ρ, s, r, E, hr, ho⟩ := h
  rw [run] at hr
  split at hr
  · rename_i xss hxs
    split at hr
    · rename_i hc
      cases hr
      obtain ⟨hz, hij, hj⟩ := hc
      obtain ⟨a, ps, q1, q2, q3, q4, q5⟩ := E.slot i _ hxs
      have hil : i < ρ.length := (List.getElem?_eq_some_iff.mp hxs).1
      refine ⟨_, q3, a, rfl, ⟨_, SqL.of q4⟩, ?_⟩
      have mem : ∀ p ∈ a :: ps, p ∈ A i := fun p hp => by rw [q1]; exact hp
      have hjs : j < σ.length := by rw [← E.len]; exact hj
      have nd : ps.Nodup := (List.nodup_cons.mp q2).2
      have hun : ((ρ.set i SS.un).set j SS.un)[i]? = some SS.un := by
        rw [List.getElem?_set_ne (Ne.symm hij), List.getElem?_set_self hil]
      refine for_list (xs := ps.map V.ref) (fun n σ' Hc => SR w g G0 H0 F A σ' Hc ((ρ.set i .un).set j .un) s ∧ KeepG F H Hc ∧ Hc a = some (.lst (ps.map V.ref)) ∧ ∀ p ∈ ps.drop n, ∃ vs, Hc p = some (.lst vs) ∧ vs.length < sizeLine) ?_ (fun n σ' Hc hn ⟨b1, b2, b3, b4⟩ => SqL.of b3) (fun n x σ' Hc hx ⟨b1, b2, b3, b4⟩ => ?_) fun σ' Hc ⟨b1, b2, b3, b4⟩ => ?_
      · refine ⟨E.forget.forget, KeepG.rfl', q4, fun p hp => ?_⟩
        rw [List.drop_zero] at hp
        obtain ⟨xd, e0, e3⟩ := paired_mem (P := fun xd => shortL xd = true) q5 (fun y hy => List.all_eq_true.mp hz y hy) p hp
        cases xd with
        | list xs =>
          obtain ⟨vs, e1, e2⟩ := own_isL e0
          exact ⟨vs, e1, by rw [e2.length]; simpa [shortL] using e3⟩
        | _ => cases e3
      · rw [List.getElem?_map] at hx
        obtain ⟨p, hp, rfl⟩ := map_some hx
        have hpm : p ∈ ps := List.mem_of_getElem? hp
        have hdr : ps.drop n = p :: ps.drop (n + 1) := by
          obtain ⟨hl, hv⟩ := List.getElem?_eq_some_iff.mp hp
          rw [← hv]
          exact List.drop_eq_getElem_cons hl
        rw [hdr] at b4
        obtain ⟨vs, c1, c2⟩ := b4 p List.mem_cons_self
        have hl2 : j < σ'.length := by
          have := b1.len
          rw [List.length_set, List.length_set] at this
          omega
        have b1' := b1.drop (i := j) (o := some (V.ref p))
        rw [List.set_set] at b1'
        obtain ⟨d1, d2⟩ := b1'.wr (us := vs ++ [V.non]) (mem p (List.mem_cons_of_mem _ hpm)) hun c1
        refine ⟨_, List.getElem?_set_self hl2, .inl ⟨rfl, vs, SqL.of c1⟩, p, vs, .non, rfl, rfl, c1, c2, d1, b2.trans' d2 (fun _ z => z), upd_keep (fun z => ?_) b3, fun p' hp' => ?_⟩
        · rw [z] at q2
          exact (List.nodup_cons.mp q2).1 hpm
        · obtain ⟨vs', e1, e2⟩ := b4 p' (List.mem_cons_of_mem _ hp')
          refine ⟨vs', upd_keep (fun z => ?_) e1, e2⟩
          subst z
          have := (List.drop_sublist n ps).nodup nd
          rw [hdr] at this
          exact (List.nodup_cons.mp this).1 hp'
      · exact ho _ Hc F A b1 b2 fun _ z => z
    · cases hr
  · cases hr
end
end Os
end
section
set_option linter.all false
set_option maxRecDepth 100000
set_option maxHeartbeats 4000000
/-! OsT: every statement of the small language; a def by its body. -/
namespace Os
open PySem PySem.Spec PyProof.Rows L2

section
variable {X : Cx} {Φ : Fs} {gk : List (Str × D)} {k : Nat} {N : List Str} {sc : Scope}
theorem s_setL (C : XS X Φ gk k) (hN : X.N = N) (hs : X.env.scope = sc) {i : Nat} {x : Str} {elt : Expr} {gs : List Comprehension} {scope : Scope} {m : ME} {p cpos pos : Pos} (md : Mode) (h1 : N[i]? = some x) (h2 : sc.names.lookup x = some .local) {l : List FE} {lb : Bool} (h3 : TrE l gk lb N sc (.ListComp elt gs scope cpos) m) (hl : Φ.l = l) (hbb : Φ.b = lb)
    (h4 : (p.line == cpos.line) = true) (h5 : (scope.names.any fun (n, k) => n == x && (k == .local || k == .cell)) = false) (h6 : md ≠ .q) : PS X (.Assign [.Name x p] (.ListComp elt gs scope cpos) pos) (tS X.w Φ (.set i md m)) := by
  cases h3 with
  | bad _ => exact ⟨fun pins s σ H D I ⟨g, G0, H0, F, A, ρ, t, r, E, hr, ho⟩ => by
      rw [run, evM, ev] at hr
      cases hr⟩
  | comp hb ht hsl hi hf he hse =>
    have hi' := sndI hi X Φ hl hbb C.c hN hs _ rfl
    subst hN hs
    refine ⟨fun pins s σ H D I h => ?_⟩
    have pg : ∀ (s : Shared) (H : Hp) (L : Addr) (cl : List (Str × Addr)) (fp : List Addr), PG (X.blk s H scope (compEnvC scope cl L X.env) fp) _ (gM X.K _) := fun s H L cl fp =>
      pg_ok (X := X.blk s H scope (compEnvC scope cl L X.env) fp) C.c.calm C.c.nd ht
    have pel : ∀ (s : Shared) (H : Hp) (L : Addr) (cl : List (Str × Addr)) (fp : List Addr), PE (X.blk s H scope (compEnvC scope cl L X.env) fp) elt (tE X.w Φ _) := fun s H L cl fp => (snd he (X.blk s H scope (compEnvC scope cl L X.env) fp) Φ hl hbb C.c.blk rfl rfl).pe
    have ptl : ∀ (s : Shared) (H : Hp) (L : Addr) (cl : List (Str × Addr)) (fp : List Addr), PTs (X.blk s H scope (compEnvC scope cl L X.env) fp) _ (tFs X.w Φ _) := fun s H L cl fp => sndF hf (X.blk s H scope (compEnvC scope cl L X.env) fp) Φ hl hbb C.c.blk rfl rfl
    refine (ps_setLc C.c.calm C.c.nd h1 h2 (sw_true I.ok.kind h2 h4 h5) hi' (blkOk_by hb) pg ptl pel (hse _)).run pins s σ H D I ?_
    exact lc_of ht hsl (tM_of h6 (a_set h))
end

section
variable {X : Cx} {Φ : Fs} {gk : List (Str × D)} {k : Nat} {N : List Str} {sc : Scope}
/-- xs = [[] for y in ..] -/
theorem s_news (C : XS X Φ gk k) (hN : X.N = N) (hs : X.env.scope = sc) {i j : Nat} {x y : Str} {iter : Expr} {scope : Scope} {own : List (Str × Nat)} {it : MI} {p yp lp cpos pos : Pos} (h1 : N[i]? = some x) (h2 : sc.names.lookup x = some .local) (hb : blkC N sc scope own = true) (ht : TrT N (fun x => scope.names.lookup x == some .cell) (relS scope sc) (.Name y yp) (.nm j))
    (hsl : (own.map (·.2)).contains j = true) (hi : PI X (.Name y yp) iter (tI false X.w Φ it)) (hse : ∀ env x, foldedSetIterable iter env x = pure x) (h4 : (p.line == cpos.line) = true) (h5 : (scope.names.any fun (n, k) => n == x && (k == .local || k == .cell)) = false) :
    PS X (.Assign [.Name x p] (.ListComp (.List [] lp) [⟨.Name y yp, iter, [], 0⟩] scope cpos) pos) (tS X.w Φ (.news i j it)) := by
  subst hN hs
  refine ⟨fun pins s σ H D I h => ?_⟩
  have pg : ∀ (s : Shared) (H : Hp) (L : Addr) (cl : List (Str × Addr)) (fp : List Addr), PG (X.blk s H scope (compEnvC scope cl L X.env) fp) _ (gM X.K (.nm j)) := fun s H L cl fp =>
    pg_ok (X := X.blk s H scope (compEnvC scope cl L X.env) fp) C.c.calm C.c.nd ht
  have pel : ∀ (s : Shared) (H : Hp) (L : Addr) (cl : List (Str × Addr)) (fp : List Addr), PE (X.blk s H scope (compEnvC scope cl L X.env) fp) (.List [] lp) (tLst tNil) := fun s H L cl fp => pe_lst pa_nil
  have ptl : ∀ (s : Shared) (H : Hp) (L : Addr) (cl : List (Str × Addr)) (fp : List Addr), PTs (X.blk s H scope (compEnvC scope cl L X.env) fp) [] (tFs X.w Φ .nil) := fun s H L cl fp => sndF (.nil : TrF Φ.l gk Φ.b _ _ [] .nil) (X.blk s H scope (compEnvC scope cl L X.env) fp) Φ rfl rfl C.c.blk rfl rfl
  exact (ps_setLc C.c.calm C.c.nd h1 h2 (sw_true I.ok.kind h2 h4 h5) hi (blkOk_by hb) pg ptl pel (hse _)).run pins s σ H D I (a_news (by simpa using hsl) h)
end
/-- d[k] = v -/
theorem set_dO {X : Cx} (R : XR X) : PSet X (rSetO X.w) := by
  intro pins s σ H o i v ov iv u Q I ro ri rv ⟨p, es, G, kvs, kd, k, ho, hp, dkv, hz, hk, hkk, q⟩
  subst ho
  cases ro
  obtain ⟨hk1, hk2⟩ := keyD_key hkk
  obtain ⟨xs, x, qx, hs, hz2⟩ := de_of I.hok hp dkv
  refine d_store (by have := R.un; omega) (Dat.nested I.hok hk ri hk1) hk2 x (by rw [qx.length]; omega) fun h' t x' sb => ?_
  have q' := put_ex (k := k) qx ri rv
  refine ⟨_, I.write (x := p) (e := p) (t' := t) (by rw [hp]; trivial) (.inl rfl) (fun b u hb e => (sb.2 b hb).trans e) ?_ (dO_of x' q' hs ?_), q⟩
  · obtain ⟨o, _, _, ho, _⟩ := x'
    exact ⟨o, ho⟩
  · have := esPut_length es k i v
    omega
theorem sndMs {X : Cx} {Φ : Fs} {gk : List (Str × D)} {k : Nat} {N : List Str} {sc : Scope} (C : XC X Φ gk k) (hN : X.N = N) (hs : X.env.scope = sc) : ∀ {es : List Expr} {mds : List Mode} {ms : MEs}, TrMs Φ.l gk Φ.b N sc es mds ms → PA X es (tPs X.w Φ mds ms)
  | _, _, _, .nil => ps_nil
  | _, _, _, .cons md h r => ps_cons (sndM md h rfl rfl C hN hs) h.ns (sndMs C hN hs r)
mutual
theorem sndS {Φ : Fs} {gk : List (Str × D)} {k : Nat} {N : List Str} {sc : Scope} {st : Stmt} {m : MS} : TrS Φ.l gk Φ.b N sc st m → ∀ X : Cx, XS X Φ gk k → X.N = N → X.env.scope = sc → PS X st (tS X.w Φ m)
  | .set md h1 h2 h3 h4, X, C, hN, hs => ps_weak (ps_set C.c.nd (by rw [hN]; exact h1) (by rw [hs]; exact h2) (sndM md h3 rfl rfl C.c hN hs) (h4 _) (.inl (C.fn _))) fun D σ H q => a_set q
  | .setL md h1 h2 h3 h4 h5 h6, X, C, hN, hs => s_setL C hN hs md h1 h2 h3 rfl rfl h4 h5 h6
  | .setC md h1 h2 h3, X, C, hN, hs => ps_weak (ps_set C.c.nd (by rw [hN]; exact h1) (by rw [hs]; exact .inr h2) (sndM md h3 rfl rfl C.c hN hs) (sw_cell (by rw [hs]; exact h2)) (.inl (C.fn _))) fun D σ H q => a_set q
  | .par2 m1 m2 h1 h2 h3 h4 h5 h6 h7 ha hb h8 h9, X, C, hN, hs => ⟨fun pins s σ H D I q =>
      (ps_par C.c.calm C.c.nd (by rw [hN]; exact h1) (by rw [hN]; exact h2) h3 (by rw [hs]; exact h5) (by rw [hs]; exact h6) (pa_cons (sndM m1 ha rfl rfl C.c hN hs) (pa_cons (sndM m2 hb rfl rfl C.c hN hs) pa_nil (hb.ns _ _)) (ha.ns _ _))
        (sw2_yes I.ok.kind (by rw [hs]; exact h5) (by rw [hs]; exact h6) h7 h4 ha.nst hb.nst h8 h9)).run pins s σ H D I (a_parS q)⟩
  | .par2O m1 m2 h1 h2 h3 h4 h5 ha hb, X, C, hN, hs => ps_weak (ps_asg (pe_tupF (pa_cons (sndM m1 ha rfl rfl C.c hN hs) (pa_cons (sndM m2 hb rfl rfl C.c hN hs) pa_nil (hb.ns _ _)) (ha.ns _ _)))
      (pg_tup (n := 2) C.c.calm (pgs_cons (pg_name C.c.nd (by rw [hN]; exact h1) (by rw [hs]; exact h3) (.inl (C.fn _))) (pgs_cons (pg_name C.c.nd (by rw [hN]; exact h2) (by rw [hs]; exact h4) (.inl (C.fn _))) pgs_nil))) rfl (sw2_no (by rw [hs]; exact h5))) fun D σ H q => a_parO q
  | .unp md ht h h1 h2, X, C, hN, hs => ps_weak (ps_asg (sndM md h rfl rfl C.c hN hs) (pg_ok C.c.calm C.c.nd (by rw [hN, hs]; exact ht.up C.fn)) (h1 _) (h2 _) (by rw [ht.ns]; rfl)) fun D σ H q => a_unp q
  | .app md h1 h2 h3 h4 h h5, X, C, hN, hs => ps_weak (ps_expr (pe_bm F.plainAttrs_list F.slot_list_append F.type_list_append mt_append (pe_var (by rw [hN]; exact h1) (by rw [hs]; exact h2) h3 h4) (pa_cons (sndM md h rfl rfl C.c hN hs) pa_nil (h.ns _ _)) rfl (by rw [h.ns]; rfl) h5 (h.ns _ _)) rfl) fun D σ H q => a_app q
  | .ret h, X, C, hN, hs => ps_weak (ps_ret (snd h X Φ rfl rfl C.c hN hs).pe) fun D σ H q => a_ret q
  | .retO h1 h2 h3 h4, X, C, hN, hs => ps_weak (ps_ret (pe_var (by rw [hN]; exact h1) (by rw [hs]; exact h2) h3 h4)) fun D σ H q => a_retO q
  | .ite h a b, X, C, hN, hs => ps_weak (ps_if (snd h X Φ rfl rfl C.c hN hs).pt (sndSs a X C hN hs) (sndSs b X C hN hs)) fun D σ H q => a_ite q
  | .for_ ht hi b h, X, C, hN, hs => ps_weak (ps_for C.po C.c.calm (sndI hi X Φ rfl rfl C.c hN hs _ rfl) (pg_ok C.c.calm C.c.nd (by rw [hN, hs]; exact ht.up C.fn)) (sndSs b X C hN hs) (h _)) fun D σ H q => a_for (fun hp i z => by
      subst z
      cases ht
      cases hp) q
  | .wh h b, X, C, hN, hs => ps_weak (ps_while C.po (snd h X Φ rfl rfl C.c hN hs).pt (sndSs b X C hN hs)) fun D σ H q => a_wh q
  | .par3 h1 h2 h3 h4 h5 h6 h7 h8 h9 m sw, X, C, hN, hs => ⟨fun pins s σ H D I q => (ps_par3 C.c.calm C.c.nd (by rw [hN]; exact h1) (by rw [hN]; exact h2) (by rw [hN]; exact h3) h4 h5 h6 (by rw [hs]; exact h7) (by rw [hs]; exact h8) (by rw [hs]; exact h9) (sndMs C.c hN hs m) (sw _ hs I.ok.kind)).run pins s σ H D I (a_par3 q)⟩
  | .parN t m hz sw hw h1, X, C, hN, hs => ps_weak (ps_asg (pe_tupF (sndMs C.c hN hs m)) (pg_tup C.c.calm (t.pg C.c.nd C.fn hN hs) (t.len _) (t.nost _)) (hw _) (sw _ hs) (h1 _)) fun D σ H q => a_parN rfl hz q
  | .brk, X, C, hN, hs => ps_weak ps_break fun D σ H q => a_brk q
  | .cnt, X, C, hN, hs => ps_weak ps_continue fun D σ H q => a_cnt q
  | .pass, X, C, hN, hs => ps_weak ps_pass fun D σ H q => a_pass q
  | .doc, X, C, hN, hs => ps_weak ps_doc fun D σ H q => a_pass q
  | .bad, X, C, hN, hs => ps_weak ps_never fun D σ H ⟨g, G0, H0, F, A, ρ, s, r, E, hr, ho⟩ => by cases hr
  | .drop h h1, X, C, hN, hs => ps_weak (ps_expr (snd h X Φ rfl rfl C.c hN hs).pe (h1 _)) fun D σ H q => a_drop q
  | .spoil h1 h2 h3 h4 h5 h6 h7 h8 h9, X, C, hN, hs => ps_weak (ps_for C.po C.c.calm (pi_list (pe_var (by rw [hN]; exact h1) (by rw [hs]; exact h3) h5 h6)) (pg_name C.c.nd (by rw [hN]; exact h2) (by rw [hs]; exact h4) (.inl (C.fn _)))
      (pss_one (ps_expr (pe_bm F.plainAttrs_list F.slot_list_append F.type_list_append mt_append (pe_var (by rw [hN]; exact h2) (by rw [hs]; exact h4.elim .inl fun z => .inr (.inl z)) h7 h8) (pa_cons pe_non pa_nil) rfl rfl h9)))) fun D σ H q => a_spoil q
  | .ext h1 h2 h, X, C, hN, hs => ps_weak (ps_aug C.c.nd (by rw [hN]; exact h1) (by rw [hs]; exact h2) (snd h X Φ rfl rfl C.c hN hs).pe iop_ext (.inl (C.fn _))) fun D σ H q => a_ext q
  | .aug sb h1 h2 h, X, C, hN, hs => ps_weak (ps_aug (ti := ipI fun a b => if sb = true then a - b else a + b) C.c.nd (by rw [hN]; exact h1) (by rw [hs]; exact h2) (snd h X Φ rfl rfl C.c hN hs).pe (by cases sb; exact ip_add; exact ip_sub) (.inl (C.fn _))) fun D σ H q => a_aug q
  | .lput md h1 h2 h3 h4 k v ok, X, C, hN, hs => ps_weak (ps_asg (sndM md v rfl rfl C.c hN hs) (pg_sub (pe_var (by rw [hN]; exact h1) (by rw [hs]; exact h2) h3 h4) (snd k X Φ rfl rfl C.c hN hs).pe set_list (ok.go _)) (ok.sw _) (ok.st _) (ok.one _)) fun D σ H q => a_lput q
  | .dput md h1 h2 h3 h4 k v ok, X, C, hN, hs => ps_weak (ps_asg (sndM md v rfl rfl C.c hN hs) (pg_sub (pe_var (by rw [hN]; exact h1) (by rw [hs]; exact h2) h3 h4) (snd k X Φ rfl rfl C.c hN hs).pe (set_dO C.c.xr) (ok.go _)) (ok.sw _) (ok.st _) (ok.one _)) fun D σ H q => a_dput q
  | .dput2 md h1 h2 h3 h4 a hp k v ok, X, C, hN, hs => ps_weak (ps_asg (sndM md v rfl rfl C.c hN hs) (pg_sub (pe_ix ix_list (pe_var (by rw [hN]; exact h1) (by rw [hs]; exact h2) h3 h4) (snd a X Φ rfl rfl C.c hN hs).pe hp) (snd k X Φ rfl rfl C.c hN hs).pe (set_dO C.c.xr) (ok.go _)) (ok.sw _) (ok.st _) (ok.one _)) fun D σ H q => a_dput2 q
  | .news h1 h2 h3 ht h4 hi h5 h6 h7, X, C, hN, hs => s_news C hN hs h1 h2 h3 ht h4 (sndI hi X Φ rfl rfl C.c hN hs _ rfl) h5 h6 h7
  | .app2 md h1 h2 h3 h4 k hp h h5, X, C, hN, hs => ps_weak (ps_expr (pe_bm F.plainAttrs_list F.slot_list_append F.type_list_append mt_append (pe_ix ix_list (pe_var (by rw [hN]; exact h1) (by rw [hs]; exact h2) h3 h4) (snd k X Φ rfl rfl C.c hN hs).pe hp) (pa_cons (sndM md h rfl rfl C.c hN hs) pa_nil (h.ns _ _)) rfl (by rw [h.ns]; rfl) h5 (h.ns _ _)) rfl) fun D σ H q => a_app2 q
  | .extT h1 h2 h3 h4 h h5, X, C, hN, hs => ps_weak (ps_expr (pe_bm F.plainAttrs_list F.slot_list_extend F.type_list_extend mt_extT (pe_var (by rw [hN]; exact h1) (by rw [hs]; exact h2) h3 h4) (pa_cons (snd h X Φ rfl rfl C.c hN hs).pe pa_nil (h.ns _ _)) rfl (by rw [h.ns]; rfl) h5 (h.ns _ _)) rfl) fun D σ H q => a_extT q
  | .unpL md h1 h2 h3 h4 h5 h6 k h h7 h8 h9, X, C, hN, hs => ps_weak (ps_asg (sndM md h rfl rfl C.c hN hs) (pg_tup (n := 2) C.c.calm (pgs_cons (pg_sub (pe_var (by rw [hN]; exact h1) (by rw [hs]; exact h2) h3 h4) (snd k X Φ rfl rfl C.c hN hs).pe set_list (h7 _)) (pgs_cons (pg_name C.c.nd (by rw [hN]; exact h5) (by rw [hs]; exact h6) (.inl (C.fn _))) pgs_nil))) (h8 _) (h9 _) rfl) fun D σ H q => a_unpL q
  | .appT md h1 h2 h3 h4 hp h h5, X, C, hN, hs => ps_weak (ps_expr (pe_bm F.plainAttrs_list F.slot_list_append F.type_list_append mt_append (pe_ix ix_tup (pe_var (by rw [hN]; exact h1) (by rw [hs]; exact h2) h3 h4) (snd (k := k) (gk := gk) (l := Φ.l) (lb := Φ.b) (N := N) (sc := sc) .ci X Φ rfl rfl C.c hN hs).pe hp) (pa_cons (sndM md h rfl rfl C.c hN hs) pa_nil (h.ns _ _)) rfl (by rw [h.ns]; rfl) h5 (h.ns _ _)) rfl) fun D σ H q => a_appT q
  | .forO ht h1 h2 h3 h4 k hp b h5, X, C, hN, hs => ps_weak (ps_for C.po C.c.calm (pi_list (pe_ix ix_list (pe_var (by rw [hN]; exact h1) (by rw [hs]; exact h2) h3 h4) (snd k X Φ rfl rfl C.c hN hs).pe hp)) (pg_ok C.c.calm C.c.nd (by rw [hN, hs]; exact ht.up C.fn)) (sndSs b X C hN hs) (h5 _)) fun D σ H q => a_forO q
theorem sndSs {Φ : Fs} {gk : List (Str × D)} {k : Nat} {N : List Str} {sc : Scope} {sts : List Stmt} {ms : MSs} : TrSs Φ.l gk Φ.b N sc sts ms → ∀ X : Cx, XS X Φ gk k → X.N = N → X.env.scope = sc → PSs X sts (tSs X.w Φ ms)
  | .nil, X, C, hN, hs => pss_weak pss_nil fun D σ H q => a_nil q
  | .cons h r, X, C, hN, hs => pss_weak (pss_cons (sndS h X C hN hs) (sndSs r X C hN hs)) fun D σ H q => a_cons q
  | .frz i r, X, C, hN, hs => pss_weak (sndSs r X C hN hs) fun D σ H q => a_frz q
end
end Os
end
section
set_option linter.all false
set_option maxRecDepth 100000
set_option maxHeartbeats 4000000
/-! OsU: a def by its body; the law's call. -/
namespace Os
open PySem PySem.Spec PyProof.Rows L2

theorem RoomG.deeper {k : Nat} {A : Around} (r : RoomG (k + 1) A) (env : Env) : RoomG k (A.deeper env) := ⟨r.r.deeper env, r.gd⟩

section
variable {P : Program} {w : World} {K : PySem.W.Frag} {mg : Str → Option Value} {base : Heap} {k : Nat} {f : Addr} {x qual : Str} {st : Stmt} {fd : FuncData} {N ps : List Str} {sp : Sp}
/-- a def by a reading of its body -/
theorem fnG_body (Fd : Fun K x qual st f fd) (S : FnScope N ps (defScope st)) (hlen : ∀ vs H Q E, sp vs H Q E → vs.length = ps.length)
    (hb : ∀ (cdv : Value), fd.code = cdv → ∀ (A : Around) (outer : List Env) (s : Shared) (H : Hp) (vs : List V) (Q : VK) (E : XK), RoomG k (A.deeper (envOfC qual (defScope st) s.heap.objs.size f cdv)) → sp vs H Q E →
      ∃ t, PSs (cxOf CX0 P w K mg base N qual (defScope st) f cdv A outer s H E) (defBody st) t ∧ t { nx := fun _ H' => Q .non H', rt := Q } (L2.start N vs) H) : FnG P w K mg base (k + 1) f fd ps sp := by
  obtain ⟨oc, od, kV, doc, pm, an, cdv, ct, osl, rfl, lk, hcd⟩ := Fd.ex
  constructor
  · exact hlen
  intro A outer s H as us vs Q E room env0 hbind hvals hsp
  have hn := hlen vs H Q E hsp
  have kin : K.In s.heap := env0.mod.kin.keeps fun b o e => (env0.bs b o e).1
  have nolim : s.heap.NoLimit := env0.mod.nolimit.keeps fun b o e => (env0.bs b o e).1
  have kinds : ∀ y ∈ ps.zip us, (defScope st).names.lookup y.1 = some .local ∨ ((defScope st).names.lookup y.1 = some .cell ∧ ((cellsFrom (s.heap.objs.size + 1) (defScope st).names []).lookup y.1).isSome = true) := by
    intro y hy
    obtain ⟨n, v⟩ := y
    cases S.par n (List.of_mem_zip hy).1 with
    | inl q => left; exact q
    | inr q => right; exact And.intro q (PySem.W.cellsFrom_some _ _ _ (Or.inl q))
  apply codeAny_call_function room.r.depth (kin _ _ lk) rfl S.co S.gen rfl (PySem.W.codeRec_of kin hcd)
  apply hbind
  apply wpAny_newFunctionEnv_cells S.kind kinds
  intro env he s1 enter
  subst he
  constructor
  · exact nolim.keeps enter.toInCall.keep
  apply codeAny_func
  obtain ⟨t, ht, hq⟩ := hb cdv rfl A outer s H vs Q E (room.deeper _) hsp
  have I0 : Inv (cxOf CX0 P w K mg base N qual (defScope st) f cdv A outer s H E) [] (L2.start N vs) H s1 := inv_start S room.r.hd env0 hn hvals enter
  apply wpAny_mono (ht.run [] s1 (L2.start N vs) H _ I0 hq)
  · intro flow s' hflow
    have back : ∀ {σ' : L2.St} {H' : Hp} {v : V} {u : Value}, Inv (cxOf CX0 P w K mg base N qual (defScope st) f cdv A outer s H E) [] σ' H' s' → RelV v u → Q v H' → CE outer P w H s Q u s' := by
      intro σ' H' v u J hr hQ
      exact Exists.intro v (Exists.intro H' (And.intro J.os (And.intro J.bare (And.intro J.base (And.intro J.hok (And.intro hr hQ))))))
    cases flow with
    | ret u => obtain ⟨v, σ', H', J, hr, hQ⟩ := hflow; exact back J hr hQ
    | next => obtain ⟨σ', H', J, hQ⟩ := hflow; exact back (v := V.non) (u := Value.none) J rfl hQ
    | brk => obtain ⟨_, _, _, z⟩ := hflow; exact z.elim
    | cont => obtain ⟨_, _, _, z⟩ := hflow; exact z.elim
  · intro e s' z
    exact z
end

/-- what the module gives the defs -/
structure MF (P : Program) (w : World) (K : PySem.W.Frag) (mg : Str → Option Value) (base : Heap) (T : List (Addr × Str)) (l : List FE) (gk : List (Str × D)) (k : Nat) : Prop where
  bl : ∀ x ∈ bNames, mg x = none
  fns : ∀ F ∈ l, ∃ f fd ps, mg F.name = some (.ref f) ∧ PySem.W.keepIn K (.ref f) = true ∧ Binds K fd ps [] ∧ ps.length = F.ar ∧ FnG P w K mg base k f fd ps (spF w T F)
  gks : ∀ p ∈ gk, ∃ u v, mg p.1 = some u ∧ RelV v u ∧ glV K v p.2
section
variable {P : Program} {w : World} {K : PySem.W.Frag} {mg : Str → Option Value} {base : Heap} {T T' : List (Addr × Str)} {l : List FE} {gk : List (Str × D)} {j k : Nat}
theorem MF.up (M : MF P w K mg base T l gk j) (h : j ≤ k) : MF P w K mg base T l gk k :=
  ⟨M.bl, fun F hF => let ⟨f, fd, ps, h1, h2, h3, h4, h5⟩ := M.fns F hF; ⟨f, fd, ps, h1, h2, h3, h4, h5.up h⟩, M.gks⟩
theorem MF.push (M : MF P w K mg base T l gk j) (h : j ≤ k) {F : FE} {f : Addr} {fd : FuncData} {ps : List Str} (h1 : mg F.name = some (.ref f)) (h2 : PySem.W.keepIn K (.ref f) = true) (h3 : Binds K fd ps []) (h4 : ps.length = F.ar)
    (h5 : FnG P w K mg base k f fd ps (spF w T F)) : MF P w K mg base T (l ++ [F]) gk k :=
  ⟨M.bl, fun G hG => (List.mem_append.mp hG).elim (fun z => (M.up h).fns G z) fun z => by
    rw [List.mem_singleton.mp z]
    exact ⟨f, fd, ps, h1, h2, h3, h4, h5⟩, M.gks⟩
theorem MF.pure (M : MF P w K mg base T l gk k) : MF P w K mg base T' (pureL l) gk k := by
  refine ⟨M.bl, fun F hF => ?_, M.gks⟩
  obtain ⟨F0, h0, rfl⟩ := List.mem_map.mp hF
  obtain ⟨f, fd, ps, h1, h2, h3, h4, h5⟩ := M.fns F0 h0
  by_cases hp : F0.pure = true
  · rw [if_pos hp]
    exact ⟨f, fd, ps, h1, h2, h3, h4, h5.imp fun vs H Q E ⟨T1, g, G, as, s, d, s', _, q⟩ => ⟨T1, g, G, as, s, d, s', .inl hp, q⟩⟩
  · rw [if_neg hp]
    refine ⟨f, fd, ps, h1, h2, h3, h4, h5.imp fun vs H Q E ⟨T1, g, G, as, s, d, s', _, _, _, _, _, q, _⟩ => ?_⟩
    cases (show (none : Option (D × S1)) = _ from q)
end

theorem AR.get {w : World} {g : GS T} {G : Addr → Prop} {H : Hp} : ∀ {vs : List V} {as : List SL} {i : Nat} {x : SL}, AR w g G H vs as → as[i]? = some x → ∃ v, vs[i]? = some v ∧ ((∃ d, x = .d d ∧ Dat w G H v d) ∨ (x = .src ∧ ∃ a c, v = .ref a ∧ g.src = some (a, c)))
  | _, _, _, _, .nil, e => nomatch e
  | _, _, 0, _, .cons r _, e => by
    cases e
    exact ⟨_, rfl, .inl ⟨_, rfl, r⟩⟩
  | _, _, 0, _, .src r _, e => by
    cases e
    exact ⟨_, rfl, .inr ⟨rfl, _, _, rfl, r⟩⟩
  | _, _, i + 1, x, .cons _ t, e => by
    obtain ⟨v, h1, h2⟩ := AR.get (i := i) (x := x) t (by simpa using e)
    exact ⟨v, by simpa using h1, h2⟩
  | _, _, i + 1, x, .src _ t, e => by
    obtain ⟨v, h1, h2⟩ := AR.get (i := i) (x := x) t (by simpa using e)
    exact ⟨v, by simpa using h1, h2⟩
/-- the state at a def's entry -/
theorem SR.entry {w : World} {g : GS T} {G : Addr → Prop} {H : Hp} {vs : List V} {as : List SL} {s : S1} {N : List Str} (gok : ∀ b, G b → ¬ Own2 g b) (r : SrcR g H s) (h : AR w g G H vs as) (hl : as.length ≤ N.length) :
    SR w g G H (fun b => G b ∧ H b ≠ none) (fun _ => []) (L2.start N vs) H (as.map argS ++ List.replicate (N.length - as.length) .un) s := by
  have e0 := h.length
  refine ⟨⟨s, r⟩, fun b z => .inl z.1, fun b z => gok b z.1, Keep.refl, r, ?_, fun i x e => ?_, fun i b hb => (nomatch hb), fun i j b hb => (nomatch hb), fun i b hb => (nomatch hb), fun b z => z.2⟩
  · unfold L2.start
    simp only [List.length_append, List.length_map, List.length_replicate]
    omega
  · by_cases hi : i < as.length
    · rw [List.getElem?_append_left (by simpa using hi), List.getElem?_map] at e
      obtain ⟨y, e1, e2⟩ := map_some e
      obtain ⟨v, h1, h2⟩ := h.get e1
      have hs : (L2.start N vs)[i]? = some (some v) := by
        unfold L2.start
        rw [List.getElem?_append_left (by rw [List.length_map]; omega), List.getElem?_map, h1]
        rfl
      rw [hs]
      rcases h2 with ⟨d, rfl, h3⟩ | ⟨rfl, a, c, rfl, hg⟩
      · subst e2
        exact ⟨v, rfl, h3.live⟩
      · subst e2
        exact ⟨a, c, hg, rfl⟩
    · rw [List.getElem?_append_right (by simpa using hi), List.getElem?_replicate] at e
      split at e
      · cases e
        exact trivial
      · cases e
/-- the code object of a def in which lambdas are made, and its table -/
def LamD (base : Heap) (mg : Str → Option Value) (T : List (Addr × Str)) (cd : Value) (qual : Str) : Prop := ∃ c P, cd = .ref c ∧ LamX.TabB base mg c P ∧ (P, (qual ++ ".<locals>.") ++ "<lambda>") ∈ T ∧ ∀ p ∈ T, p.1 = P → p.2 = (qual ++ ".<locals>.") ++ "<lambda>"
/-- a def of the small language -/
theorem fn_rule {P : Program} {w : World} {K : PySem.W.Frag} {mg : Str → Option Value} {base : Heap} {k : Nat} {f : Addr} {x qual : Str} {st : Stmt} {fd : FuncData} {N ps : List Str} {T : List (Addr × Str)} {l l' : List FE} {gk : List (Str × D)} {lb : Bool} {ms : MSs} {F : FE}
    (M : MF P w K mg base T l gk k) (Fd : Fun K x qual st f fd) (S : FnScope N ps (defScope st)) (tr : TrSs l' gk lb N (defScope st) (defBody st) ms) (har : ps.length = F.ar) (hsem : F.sem = semOf l' F.fresh N.length ms) (hfr : F.fresh = true → newMs l' ms = true)
    (hp : (F.pure = true ∧ lb = false ∧ pureL l = l') ∨ (F.pure = false ∧ l = l' ∧ (lb = true → LamD base mg T fd.code qual))) : FnG P w K mg base (k + 3) f fd ps (spF w T F) := by
  have hpl : ps.length ≤ N.length := by
    have := congrArg List.length S.pre
    rw [List.length_take] at this
    omega
  refine fnG_body Fd S (fun vs H Q E ⟨T', g, G, as, s, d, s', tb, gok, r, ha, hl, hs, q⟩ => by rw [ha.length, hl, har]) fun cdv hcd A outer s0 H vs Q E room ⟨T', g, G, as, s, d, s', tb, gok, r, ha, hl, hs, q⟩ => ?_
  have C : XC (cxOf CX0 P w K mg base N qual (defScope st) f cdv A outer s0 H E) ⟨T', l', lb⟩ gk k := by
    rcases hp with ⟨h1, h2, h3⟩ | ⟨h1, h2, h3⟩
    · subst h2 h3
      have M' := M.pure (T' := T')
      exact ⟨rfl, room.mono (by omega), S.nd, M'.bl, M'.fns, M'.gks, fun z => nomatch z⟩
    · have eT : T' = T := tb.elim (fun z => by rw [h1] at z; cases z) id
      subst eT h2
      refine ⟨rfl, room.mono (by omega), S.nd, M.bl, M.fns, M.gks, fun z => ?_⟩
      obtain ⟨c, P, e1, e2⟩ := h3 z
      exact ⟨room, c, P, hcd.symm.trans e1, e2⟩
  have XSo : XS (cxOf CX0 P w K mg base N qual (defScope st) f cdv A outer s0 H E) ⟨T', l', lb⟩ gk k := ⟨C, fun _ => rfl, passes_of rfl⟩
  refine ⟨tSs w ⟨T', l', lb⟩ ms, sndSs tr _ XSo rfl rfl, ?_⟩
  rw [hsem] at hs
  unfold semOf at hs
  obtain ⟨res, h1, h2⟩ := bind_some hs
  refine ⟨g, G, H, _, _, _, s, res, SR.entry (N := N) gok r ha (by omega), h1, ?_⟩
  cases res with
  | rt d2 s2 =>
    cases h2
    exact fun v H1 p n => q v H1 p fun z => n (hfr z)
  | nx ρ s2 =>
    dsimp only at h2
    split at h2
    · cases h2
    · rename_i hf
      cases h2
      exact fun σ H1 F1 A1 E1 kg ff => q .non H1 ⟨E1.keep, E1.src, .none⟩ fun z => absurd z hf
  | bk ρ s2 => cases h2
  | ct ρ s2 => cases h2
end Os
end
section
set_option linter.all false
set_option maxRecDepth 100000
set_option maxHeartbeats 4000000
/-! OsV: the laws' source: what it is as a dict; drawing from it. -/
namespace Os
open PySem PySem.Spec PyProof.Rows L2

/-! ### drawing, as data -/
def drain (left : Int) : List Int → List Int × Int
  | [] => ([], left)
  | x :: r => if left < 2 then drain x r else (x :: r, left)
def pickS (m : Int) (S : Src) : Int × Src :=
  if m < 2 then (0, S) else
    let q := drain S.left S.cells.reverse
    if q.2 > 1 then (q.2 % m, ⟨q.1.reverse, q.2 / m, S.mixed, S.turn⟩)
    else
      let t := S.turn + 1
      let a := (S.mixed + t * 104729) % 998244353
      let b := (a * a + t * 17) % 2147483647
      ((b / 16) % m, ⟨q.1.reverse, q.2, S.mixed, t⟩)
def pickF : FE := ⟨"_law_pick", 2, fun as s => match as, s with
  | [.src, .d (.int n)], some S => if n < 1606938044258990275541962092341162602522202993782792835301376 then some (.int (pickS n S).1, some (pickS n S).2) else none
  | _, _ => none, false, true⟩

/-! ### the dict -/
def kvS (c : Addr) (S : Src) : List (Key × V) := [(.inr "cells", .ref c), (.inr "left", .int S.left), (.inr "mixed", .int S.mixed), (.inr "turn", .int S.turn)]
theorem kCL : ¬ ((.inr "cells" : Key) = .inr "left") := by decide +kernel
theorem kCM : ¬ ((.inr "cells" : Key) = .inr "mixed") := by decide +kernel
theorem kCT : ¬ ((.inr "cells" : Key) = .inr "turn") := by decide +kernel
theorem kLM : ¬ ((.inr "left" : Key) = .inr "mixed") := by decide +kernel
theorem kLT : ¬ ((.inr "left" : Key) = .inr "turn") := by decide +kernel
theorem kML : ¬ ((.inr "mixed" : Key) = .inr "left") := by decide +kernel
theorem kMT : ¬ ((.inr "mixed" : Key) = .inr "turn") := by decide +kernel
theorem kTL : ¬ ((.inr "turn" : Key) = .inr "left") := by decide +kernel
theorem kv_cells (c : Addr) (S : Src) : valV (kvS c S) (.inr "cells") = some (.ref c) := valV_pos rfl
theorem kv_left (c : Addr) (S : Src) : valV (kvS c S) (.inr "left") = some (.int S.left) := (valV_neg kCL).trans (valV_pos rfl)
theorem kv_mixed (c : Addr) (S : Src) : valV (kvS c S) (.inr "mixed") = some (.int S.mixed) := (valV_neg kCM).trans ((valV_neg kLM).trans (valV_pos rfl))
theorem kv_turn (c : Addr) (S : Src) : valV (kvS c S) (.inr "turn") = some (.int S.turn) := (valV_neg kCT).trans ((valV_neg kLT).trans ((valV_neg kMT).trans (valV_pos rfl)))
theorem sCL : ¬ (("cells" : Str) = "left") := by decide +kernel
theorem sML : ¬ (("mixed" : Str) = "left") := by decide +kernel
theorem sTL : ¬ (("turn" : Str) = "left") := by decide +kernel
theorem sCT : ¬ (("cells" : Str) = "turn") := by decide +kernel
theorem sLT : ¬ (("left" : Str) = "turn") := by decide +kernel
theorem sMT : ¬ (("mixed" : Str) = "turn") := by decide +kernel
theorem put_left (c : Addr) (S : Src) (l : Int) : putK (kvS c S) (.inr "left") (.int l) = kvS c { S with left := l } := by
  unfold putK kvS
  simp [sCL, sML, sTL]
theorem put_turn (c : Addr) (S : Src) (l : Int) : putK (kvS c S) (.inr "turn") (.int l) = kvS c { S with turn := l } := by
  unfold putK kvS
  simp [sCT, sLT, sMT]

theorem no_tab_dK {T : List (Addr × Str)} {H : Hp} {a : Addr} {kvs : List (Key × V)} (t : LamX.Tabs T H) (h : H a = some (.dK kvs)) : a ∉ T.map (·.1) := fun z => by
  obtain ⟨ps, e⟩ := tab_there t z
  rw [h] at e
  cases e
theorem no_tab_lst {T : List (Addr × Str)} {H : Hp} {a : Addr} {xs : List V} (t : LamX.Tabs T H) (h : H a = some (.lst xs)) : a ∉ T.map (·.1) := fun z => by
  obtain ⟨ps, e⟩ := tab_there t z
  rw [h] at e
  cases e
/-- the source at a, its cells at c, all else as it was or new -/
structure SH (T : List (Addr × Str)) (H0 : Hp) (a c : Addr) (S : Src) (H : Hp) : Prop where
  keep : ∀ b o, b ≠ a → b ≠ c → H0 b = some o → H b = some o
  sa : H a = some (.dK (kvS c S))
  sc : H c = some (.lst (S.cells.map V.int))
  tb : LamX.Tabs T H
theorem SH.ne {T : List (Addr × Str)} {H0 H : Hp} {a c : Addr} {S : Src} (h : SH T H0 a c S H) : a ≠ c := fun z => by
  have h1 := h.sa
  have h2 := h.sc
  rw [z, h2] at h1
  cases h1
theorem SH.left {T : List (Addr × Str)} {H0 H : Hp} {a c : Addr} {S : Src} (h : SH T H0 a c S H) (l : Int) : SH T H0 a c { S with left := l } (upd H a (.dK (putK (kvS c S) (.inr "left") (.int l)))) :=
  ⟨fun b o n1 n2 e => by rw [upd_ne n1]; exact h.keep b o n1 n2 e, by rw [upd_same, put_left], by rw [upd_ne h.ne.symm]; exact h.sc, tabs_upd h.tb (no_tab_dK h.tb h.sa) (noCode_dK h.sa)⟩
theorem SH.turn {T : List (Addr × Str)} {H0 H : Hp} {a c : Addr} {S : Src} (h : SH T H0 a c S H) (l : Int) : SH T H0 a c { S with turn := l } (upd H a (.dK (putK (kvS c S) (.inr "turn") (.int l)))) :=
  ⟨fun b o n1 n2 e => by rw [upd_ne n1]; exact h.keep b o n1 n2 e, by rw [upd_same, put_turn], by rw [upd_ne h.ne.symm]; exact h.sc, tabs_upd h.tb (no_tab_dK h.tb h.sa) (noCode_dK h.sa)⟩
theorem SH.cells {T : List (Addr × Str)} {H0 H : Hp} {a c : Addr} {S : Src} (h : SH T H0 a c S H) (xs : List Int) : SH T H0 a c { S with cells := xs } (upd H c (.lst (xs.map V.int))) :=
  ⟨fun b o n1 n2 e => by rw [upd_ne n2]; exact h.keep b o n1 n2 e, by rw [upd_ne h.ne]; exact h.sa, upd_same, tabs_upd h.tb (no_tab_lst h.tb h.sc) (noCode_lst h.sc)⟩
theorem SH.same {H0 H H1 : Hp} {a c : Addr} {S : Src} (h : SH T H0 a c S H) (k : Same H H1) : SH T H0 a c S H1 :=
  ⟨fun b o n1 n2 e => k _ _ (h.keep b o n1 n2 e), k _ _ h.sa, k _ _ h.sc, h.tb.ext fun b o e => k b o e⟩
theorem SH.of {T : List (Addr × Str)} {g : GS T} {H : Hp} {a c : Addr} {S : Src} (hg : g.src = some (a, c)) (r : SrcR g H (some S)) : SH T H a c S H := by
  obtain ⟨S', e, h1, h2⟩ := r.1.at hg
  cases e
  exact ⟨fun _ _ _ _ e => e, h1, h2, r.2⟩
theorem SH.fin {T : List (Addr × Str)} {g : GS T} {H0 H : Hp} {a c : Addr} {S : Src} (hg : g.src = some (a, c)) (h : SH T H0 a c S H) : Keep g H0 H ∧ SrcR g H (some S) :=
  ⟨fun b o e n => h.keep b o (fun z => n (.inl ⟨a, c, hg, .inl z⟩)) (fun z => n (.inl ⟨a, c, hg, .inr z⟩)) e, by
    refine ⟨?_, h.tb⟩
    rw [hg]
    exact ⟨h.sa, h.sc⟩⟩
theorem SH.get {T : List (Addr × Str)} {H0 H : Hp} {a c : Addr} {S : Src} (h : SH T H0 a c S H) {k : Key} {v : V} (e : valV (kvS c S) k = some v) : DGet H a (kV k) (some v) := by
  rw [← e]
  exact DGet.k h.sa

/-! ### _law_pick -/
abbrev srcE (p1 p2 p3 : Pos) (k : Nat) (x : Str) : Expr := .Subscript (.Name "_law_source" p1) (.Constant (.str x) k p2) p3
def pickN : List Str := ["_law_source", "_law_most", "_law_cells", "_law_others", "_law_lap", "_law_stirred"]
theorem PE.fld {X : Cx} {p1 p2 p3 : Pos} {k : Nat} {x : Str} (hu : X.A.units + 1 < cLine) (hN : X.N[0]? = some ("_law_source" : Str)) (hv : Vis X.env.scope "_law_source") : PE X (srcE p1 p2 p3 k x) (tDGet (tVar 0) (tC (.str x))) :=
  pe_dget hu (pe_var hN hv (by decide +kernel) (by decide +kernel)) pe_str fun _ _ => rfl
section
variable {T : List (Addr × Str)} {H0 H : Hp} {a c : Addr} {S : Src} {σ : L2.St} {Q : VK} {v : V}
theorem SH.rd (h : SH T H0 a c S H) (h0 : σ[0]? = some (some (.ref a))) {x : Str} (e : valV (kvS c S) (.inr x) = some v) (q : Q v H) : tDGet (tVar 0) (tC (.str x)) σ H Q := ⟨_, h0, a, v, rfl, h.get e, q⟩
theorem intQ {w : World} {f : B1} {i j : Int} (h : dB1 f (.int i) = some (.int j)) (q : ∀ H', Same H H' → Q (.int j) H') : rB1N w f [.int i] H Q :=
  ⟨_, rfl, fun _ => False, _, _, .int i, h, fun v H' k d _ => by
    obtain rfl := d.intE
    exact q H' k⟩
end
theorem revcons {x : Int} {r : List Int} : ((x :: r).reverse.map V.int)[((x :: r).reverse.map V.int).length - 1]? = some (.int x) := by
  simp [List.getElem?_append_right]
theorem revlast {x : Int} {r : List Int} : ((x :: r).reverse.map V.int).dropLast = r.reverse.map V.int := by
  rw [List.reverse_cons, List.map_append]
  simp
end Os
end
section
set_option linter.all false
set_option maxRecDepth 100000
set_option maxHeartbeats 4000000
/-! OsW: _law_pick does what pickS tells. -/
namespace Os
open PySem PySem.Spec PyProof.Rows L2

def tLenL (K : PySem.W.Frag) : List V → Hp → VK → Prop := fun xs H Q => ∃ p ys, xs = [.ref p] ∧ (SqL K H p ys ∨ SqT K H p ys) ∧ Q (.int ys.length) H
def tInt1 (w : World) (t : TE) : TE := tCB (rB1N w .int) (tCons t tNil)
def rAddI : R2 := rI0 fun i j => .int (i + j)
def rMulI : R2 := rI CMul fun i j => .int (i * j)
def rModI : R2 := rI (fun _ j => 0 < j) fun i j => .int (i % j)
def rDivI : R2 := rI CDivW fun i j => .int (i / j)
def tG (x : Str) : TE := tDGet (tVar 0) (tC (.str x))
def pk9 (w : World) : TS := tRet (tOp rModI (tInt1 w (tOp rDivI (tVar 5) (tC (.int 16)))) (tVar 1))
def pk8 (w : World) : TS := tSeq (tAsg (tOp rModI (tInt1 w (tOp rAddI (tOp rMulI (tVar 5) (tVar 5)) (tOp rMulI (tVar 4) (tC (.int 17))))) (tC (.int 2147483647))) (gName 5)) (pk9 w)
def pk7 (w : World) : TS := tSeq (tAsg (tOp rModI (tInt1 w (tOp rAddI (tG "mixed") (tOp rMulI (tVar 4) (tC (.int 104729))))) (tC (.int 998244353))) (gName 5)) (pk8 w)
def pk6 (w : World) : TS := tSeq (tAsg (tG "turn") (gName 4)) (pk7 w)
def pk5 (w : World) : TS := tSeq (sDPut (tVar 0) (tC (.str "turn")) (tOp rAddI (tG "turn") (tC (.int 1)))) (pk6 w)
def pk4 (w : World) : TS := tSeq (tIfS (tB (tGt (tVar 3) (tC (.int 1)))) (tSeq (sDPut (tVar 0) (tC (.str "left")) (tOp rDivI (tVar 3) (tVar 1))) (tRet (tOp rModI (tInt1 w (tVar 3)) (tVar 1)))) tNext) (pk5 w)
def pk3 (w : World) : TS := tSeq (tAsg (tG "left") (gName 3)) (pk4 w)
def pk2c (K : PySem.W.Frag) : TT := tAnd (tB (tLt (tG "left") (tC (.int 2)))) (tB (tGt (tCB (tLenL K) (tCons (tVar 2) tNil)) (tC (.int 0))))
def pk2b (K : PySem.W.Frag) : TS := sDPut (tVar 0) (tC (.str "left")) (tBM0 K "list" rPop (tVar 2))
def pk2 (w : World) (K : PySem.W.Frag) : TS := tSeq (tWhile (pk2c K) (pk2b K)) (pk3 w)
def pk1 (w : World) (K : PySem.W.Frag) : TS := tSeq (tAsg (tG "cells") (gName 2)) (pk2 w K)
def pk0 (w : World) (K : PySem.W.Frag) : TS := tSeq (tIfS (tB (tLt (tVar 1) (tC (.int 2)))) (tRet (tC (.int 0))) tNext) (pk1 w K)

theorem decT {p : Prop} {i : Decidable p} {A B : Prop} (h : p) (q : A) : if decide p = true then A else B := by
  rw [if_pos (decide_eq_true h)]
  exact q
theorem decF {p : Prop} {i : Decidable p} {A B : Prop} (h : ¬ p) (q : B) : if decide p = true then A else B := by
  rw [if_neg (fun z => h (of_decide_eq_true z))]
  exact q
section
variable {w : World} {K : PySem.W.Frag} {T : List (Addr × Str)} {H0 H : Hp} {a c : Addr} {S : Src} {m : Int} {D : Ends}
theorem pk5_run {o2 o4 o5 : Option V} {l : Int} (h : SH T H0 a c S H) (hm : 2 ≤ m) (hm2 : m < 1606938044258990275541962092341162602522202993782792835301376) (q : ∀ H', SH T H0 a c { S with turn := S.turn + 1 } H' → D.rt (.int (((((S.mixed + (S.turn + 1) * 104729) % 998244353) * ((S.mixed + (S.turn + 1) * 104729) % 998244353) + (S.turn + 1) * 17) % 2147483647 / 16) % m)) H') :
    pk5 w D [some (.ref a), some (.int m), o2, some (.int l), o4, o5] H := by
  refine h.rd rfl (kv_turn c S) ⟨S.turn, 1, rfl, rfl, ?_⟩
  refine ⟨_, rfl, a, _, rfl, DPut.k (k := .inr "turn") (v := .int (S.turn + 1)) h.sa (by show 4 < sizeLine; decide), ?_⟩
  have h1 := h.turn (S.turn + 1)
  refine h1.rd rfl (kv_turn c _) ?_
  show pk7 w D [some (.ref a), some (.int m), o2, some (.int l), some (.int (S.turn + 1)), o5] _
  refine h1.rd rfl (kv_mixed c _) ⟨_, rfl, S.turn + 1, 104729, rfl, rfl, .inr (by decide), ?_⟩
  refine ⟨_, _, rfl, rfl, intQ rfl fun H2 k2 => ?_⟩
  have h2 := h1.same k2
  refine ⟨_, 998244353, rfl, rfl, show (0 : Int) < 998244353 by decide, ?_⟩
  show pk8 w D [some (.ref a), some (.int m), o2, some (.int l), some (.int (S.turn + 1)), some (.int ((S.mixed + (S.turn + 1) * 104729) % 998244353))] H2
  have b1 := Int.emod_nonneg (S.mixed + (S.turn + 1) * 104729) (show (998244353 : Int) ≠ 0 by decide)
  have b2 := Int.emod_lt_of_pos (S.mixed + (S.turn + 1) * 104729) (show (0 : Int) < 998244353 by decide)
  generalize (S.mixed + (S.turn + 1) * 104729) % 998244353 = y at b1 b2 q ⊢
  refine ⟨_, rfl, _, rfl, y, y, rfl, rfl, .inl ⟨by omega, by omega⟩, ?_⟩
  refine ⟨_, rfl, S.turn + 1, 17, rfl, rfl, .inr (by decide), _, _, rfl, rfl, intQ rfl fun H3 k3 => ?_⟩
  have h3 := h2.same k3
  refine ⟨_, 2147483647, rfl, rfl, show (0 : Int) < 2147483647 by decide, ?_⟩
  show pk9 w D [some (.ref a), some (.int m), o2, some (.int l), some (.int (S.turn + 1)), some (.int ((y * y + (S.turn + 1) * 17) % 2147483647))] H3
  refine ⟨_, rfl, _, 16, rfl, rfl, cdivW (by decide) (by decide), intQ rfl fun H4 k4 => ?_⟩
  exact ⟨_, rfl, _, m, rfl, rfl, by omega, q H4 (h3.same k4)⟩
theorem pk3_run {o2 o3 o4 o5 : Option V} (h : SH T H0 a c S H) (hm : 2 ≤ m) (hm2 : m < 1606938044258990275541962092341162602522202993782792835301376)
    (q1 : S.left > 1 → ∀ H', SH T H0 a c { S with left := S.left / m } H' → D.rt (.int (S.left % m)) H')
    (q2 : ¬ S.left > 1 → ∀ H', SH T H0 a c { S with turn := S.turn + 1 } H' → D.rt (.int (((((S.mixed + (S.turn + 1) * 104729) % 998244353) * ((S.mixed + (S.turn + 1) * 104729) % 998244353) + (S.turn + 1) * 17) % 2147483647 / 16) % m)) H') :
    pk3 w D [some (.ref a), some (.int m), o2, o3, o4, o5] H := by
  refine h.rd rfl (kv_left c S) ?_
  show pk4 w D [some (.ref a), some (.int m), o2, some (.int S.left), o4, o5] H
  refine ⟨_, rfl, S.left, 1, rfl, rfl, _, rfl, ?_⟩
  by_cases hl : S.left > 1
  · refine decT hl ?_
    refine ⟨_, rfl, _, rfl, S.left, m, rfl, rfl, cdivW (by omega) hm2, ?_⟩
    refine ⟨_, rfl, a, _, rfl, DPut.k (k := .inr "left") (v := .int (S.left / m)) h.sa (by show 4 < sizeLine; decide), ?_⟩
    have h1 := h.left (S.left / m)
    refine ⟨_, rfl, intQ rfl fun H2 k2 => ?_⟩
    exact ⟨_, rfl, _, m, rfl, rfl, by omega, q1 hl H2 (h1.same k2)⟩
  · refine decF hl ?_
    exact pk5_run h hm hm2 (q2 hl)
theorem pk2_run {o3 o4 o5 : Option V} (h : SH T H0 a c S H) (hm : 2 ≤ m) (hm2 : m < 1606938044258990275541962092341162602522202993782792835301376) (q : ∀ H', SH T H0 a c (pickS m S).2 H' → D.rt (.int (pickS m S).1) H') :
    pk2 w K D [some (.ref a), some (.int m), some (.ref c), o3, o4, o5] H := by
  have dr : ∀ (r : List Int) (l : Int), drain l r = drain l r := fun _ _ => rfl
  refine ⟨fun n σ H' => ∃ (r : List Int) (l : Int), n = r.length ∧ σ = [some (.ref a), some (.int m), some (.ref c), o3, o4, o5] ∧ SH T H0 a c { S with cells := r.reverse, left := l } H' ∧ drain l r = drain S.left S.cells.reverse, ⟨_, S.cells.reverse, S.left, rfl, rfl, by simpa using h, rfl⟩, ?_⟩
  rintro n σ H' ⟨r, l, rfl, rfl, h1, e1⟩
  have fin : drain l r = (r, l) → pk3 w D [some (.ref a), some (.int m), some (.ref c), o3, o4, o5] H' := fun e => by
    rw [e] at e1
    have p : pickS m S = if l > 1 then (l % m, ⟨r.reverse, l / m, S.mixed, S.turn⟩) else (((((S.mixed + (S.turn + 1) * 104729) % 998244353) * ((S.mixed + (S.turn + 1) * 104729) % 998244353) + (S.turn + 1) * 17) % 2147483647 / 16) % m, ⟨r.reverse, l, S.mixed, S.turn + 1⟩) := by
      unfold pickS
      rw [if_neg (by omega), ← e1]
    refine pk3_run h1 hm hm2 (fun hl H2 h2 => ?_) fun hl H2 h2 => ?_
    · rw [p, if_pos hl] at q
      exact q H2 h2
    · rw [p, if_neg hl] at q
      exact q H2 h2
  refine h1.rd rfl (kv_left c _) ⟨l, 2, rfl, rfl, _, rfl, ?_⟩
  by_cases hl : l < 2
  · refine decT hl ?_
    refine ⟨_, rfl, c, _, rfl, .inl (SqL.of h1.sc), ?_⟩
    cases r with
    | nil =>
      refine ⟨0, 0, rfl, rfl, _, rfl, ?_⟩
      exact fin rfl
    | cons x r =>
      refine ⟨(((x :: r).reverse.map V.int).length : Nat), 0, rfl, rfl, _, rfl, ?_⟩
      refine decT (show (((((x :: r).reverse.map V.int).length : Nat) : Int) > 0) by simp) ?_
      refine ⟨fun σ' H2 => ∃ (r' : List Int) (l' : Int), r' = r ∧ σ' = [some (.ref a), some (.int m), some (.ref c), o3, o4, o5] ∧ SH T H0 a c { S with cells := r'.reverse, left := l' } H2 ∧ drain l' r' = drain S.left S.cells.reverse, fun σ' H2 ⟨r', l', z1, z2, z3, z4⟩ => ⟨r.length, by simp, r', l', by rw [z1], z2, z3, z4⟩, ?_⟩
      refine ⟨_, rfl, .inl ⟨rfl, _, SqL.of h1.sc⟩, c, _, .int x, rfl, rfl, h1.sc, revcons, ?_⟩
      rw [revlast]
      have h2 := h1.cells r.reverse
      refine ⟨_, rfl, a, _, rfl, DPut.k (k := .inr "left") (v := .int x) h2.sa (by show 4 < sizeLine; decide), r, x, rfl, rfl, h2.left x, ?_⟩
      rw [← e1, drain, if_pos hl]
  · refine decF hl ?_
    refine fin ?_
    cases r with
    | nil => rfl
    | cons x r => rw [drain, if_neg hl]
theorem pk0_run {o2 o3 o4 o5 : Option V} (h : SH T H0 a c S H) (hm2 : m < 1606938044258990275541962092341162602522202993782792835301376) (q : ∀ H', SH T H0 a c (pickS m S).2 H' → D.rt (.int (pickS m S).1) H') :
    pk0 w K D [some (.ref a), some (.int m), o2, o3, o4, o5] H := by
  refine ⟨_, rfl, m, 2, rfl, rfl, _, rfl, ?_⟩
  by_cases hm : m < 2
  · refine decT hm ?_
    have p : pickS m S = (0, S) := if_pos hm
    rw [p] at q
    exact q H h
  · refine decF hm ?_
    refine h.rd rfl (kv_cells c S) ?_
    exact pk2_run h (by omega) hm2 q
end
end Os
end
section
set_option linter.all false
set_option maxRecDepth 100000
set_option maxHeartbeats 4000000
/-! OsX: the laws' own defs that draw: rules for defs walked by hand; _law_any_order. -/
namespace Os
open PySem PySem.Spec PyProof.Rows L2

/-- a def walked by hand -/
theorem hand_rule {P : Program} {w : World} {K : PySem.W.Frag} {mg : Str → Option Value} {base : Heap} {k : Nat} {f : Addr} {x qual : Str} {st : Stmt} {fd : FuncData} {N ps : List Str} {T : List (Addr × Str)} {l : List FE} {gk : List (Str × D)} {sp : Sp} (t : World → PySem.W.Frag → TS)
    (M : MF P w K mg base T l gk k) (Fd : Fun K x qual st f fd) (S : FnScope N ps (defScope st)) (hlen : ∀ vs H Q E, sp vs H Q E → vs.length = ps.length) (hd : ∀ X : Cx, XS X ⟨T, l, false⟩ gk k → X.N = N → X.env.scope = defScope st → PSs X (defBody st) (t X.w X.K))
    (hr : ∀ vs H Q E, sp vs H Q E → t w K { nx := fun _ H' => Q .non H', rt := Q } (L2.start N vs) H) : FnG P w K mg base (k + 2) f fd ps sp := by
  refine fnG_body Fd S hlen fun cdv hcd A outer s0 H vs Q E room hs => ?_
  have C : XC (cxOf CX0 P w K mg base N qual (defScope st) f cdv A outer s0 H E) ⟨T, l, false⟩ gk k := ⟨rfl, room, S.nd, M.bl, M.fns, M.gks, fun z => nomatch z⟩
  exact ⟨t w K, hd _ ⟨C, fun _ => rfl, passes_of rfl⟩ rfl rfl, hr vs H Q E hs⟩
theorem spF_len {w : World} {T : List (Addr × Str)} {F : FE} {ps : List Str} (har : ps.length = F.ar) : ∀ vs H Q E, spF w T F vs H Q E → vs.length = ps.length := fun vs H Q E ⟨T', g, G, as, s, d, s', tb, gok, r, ha, hl, hs, q⟩ => by rw [ha.length, hl, har]
theorem spF_any {w : World} {T T' : List (Addr × Str)} {F : FE} (h : F.pure = true) {vs : List V} {H : Hp} {Q : VK} {E : XK} : spF w T F vs H Q E → spF w T' F vs H Q E := fun ⟨T1, g, G, as, s, d, s', tb, q⟩ => ⟨T1, g, G, as, s, d, s', .inl h, q⟩

theorem pick_enter {w : World} {K : PySem.W.Frag} {T : List (Addr × Str)} : ∀ vs H Q E, spF w T pickF vs H Q E → pk0 w K { nx := fun _ H' => Q .non H', rt := Q } (L2.start pickN vs) H := by
  rintro vs H Q E ⟨T', g, G, as, s, d, s', tb, gok, r, ha, hl, hs, q⟩
  unfold pickF at hs
  dsimp only at hs
  split at hs
  · rename_i n S
    split at hs
    · rename_i hn
      cases hs
      cases ha with
      | src hg ha =>
        cases ha with
        | cons hd ha =>
          cases ha
          obtain rfl := hd.intE
          exact pk0_run (SH.of hg r) hn fun H' h => q _ H' ⟨(h.fin hg).1, (h.fin hg).2, .int _⟩ fun z => nomatch z
    · cases hs
  · cases hs

theorem pickS_range {m : Int} {S : Src} (h : 1 ≤ m) : 0 ≤ (pickS m S).1 ∧ (pickS m S).1 < m := by
  simp only [pickS]
  split
  · exact ⟨Int.le_refl 0, by show (0 : Int) < m; omega⟩
  · split
    · exact ⟨Int.emod_nonneg _ (by omega), Int.emod_lt_of_pos _ (by omega)⟩
    · exact ⟨Int.emod_nonneg _ (by omega), Int.emod_lt_of_pos _ (by omega)⟩

/-! ### _law_any_order -/
def orderS : Nat → List D → Src → List D × Src
  | 0, _, S => ([], S)
  | n + 1, xs, S =>
    let q := pickS xs.length S
    let r := orderS n (xs.eraseIdx q.1.toNat) q.2
    (xs.getD q.1.toNat .none :: r.1, r.2)
def orderF : FE := ⟨"_law_any_order", 2, fun as s => match as, s with
  | [.src, .d x], some S => (seqOf x).bind fun xs => if xs.length ≤ sizeLine then some (.list (orderS xs.length xs S).1, some (orderS xs.length xs S).2) else none
  | _, _ => none, true, true⟩
def orderN : List Str := ["_law_source", "_law_things", "_law_others", "_law_lap"]
def odLen (K : PySem.W.Frag) : TE := tCB (tLenL K) (tCons (tVar 2) tNil)
def odElt (w : World) (K : PySem.W.Frag) : TE := tBM K "list" rPopAt (tVar 2) (tCons (fun σ H Q => tCons (tVar 0) (tCons (odLen K) tNil) σ H fun vs H1 => spF w [] pickF vs H1 Q E0) tNil)
def od0 (w : World) (K : PySem.W.Frag) : TS := tSeq (tAsg (tCB (rB1N w .list) (tCons (tVar 1) tNil)) (gName 2)) (tRet (tLc (iRng1 (tCons (odLen K) tNil)) (gName 3) tYes (odElt w K) [3]))

theorem Dats.erase {w : World} {G : Addr → Prop} {H : Hp} : ∀ {vs : List V} {ds : List D} (i : Nat), Dats w G H vs ds → Dats w G H (vs.eraseIdx i) (ds.eraseIdx i)
  | _, _, _, .nil => .nil
  | _, _, 0, .cons r t => t
  | _, _, i + 1, .cons r t => .cons r (Dats.erase i t)
theorem od_run {w : World} {K : PySem.W.Frag} {g : GS T} {G : Addr → Prop} {H1 : Hp} {a c p : Addr} {vs : List V} {ds : List D} {S : Src} {o1 o3 : Option V} {Q : VK} (hg : g.src = some (a, c)) (r1 : SrcR g H1 (some S)) (hp : H1 p = some (.lst vs)) (np : ¬ Own2 g p) (hd : Dats w G H1 vs ds) (gl : ∀ b, G b → b ≠ p ∧ H1 b ≠ none ∧ ¬ Own2 g b) (hz : ds.length ≤ sizeLine)
    (q : ∀ D H' us, H1 D = none → (∀ b o, H1 b = some o → ¬ Own2 g b → b ≠ p → H' b = some o) → SrcR g H' (some (orderS ds.length ds S).2) → H' D = some (.lst us) → Dats w G H' us (orderS ds.length ds S).1 → Q (.ref D) H') :
    tLc (iRng1 (tCons (odLen K) tNil)) (gName 3) tYes (odElt w K) [3] [some (.ref a), o1, some (.ref p), o3] H1 Q := by
  have hlen := hd.length
  refine ⟨_, rfl, p, vs, rfl, .inl (SqL.of hp), (vs.length : Nat), rfl, by omega, by
    have : sizeLine < 2 ^ 62 := by decide
    omega, fun Dn hDn => ?_⟩
  have nD : ¬ Own2 g Dn := fun z => r1.there z hDn
  have pD : p ≠ Dn := ne_of_none hp hDn
  have hto : ((vs.length : Nat) : Int).toNat = ds.length := by rw [hlen]; rfl
  rw [hto]
  refine lc_range (lo := 0) (n := ds.length) (fun i Hc => ∃ (us acc : List V) (es accd : List D) (S' : Src), Hc p = some (.lst us) ∧ Dats w G Hc us es ∧ SrcR g Hc (some S') ∧ (∀ b o, H1 b = some o → ¬ Own2 g b → b ≠ p → Hc b = some o) ∧ Hc Dn = some (.lst acc) ∧ Dats w G Hc acc accd ∧ es.length + i = ds.length ∧ accd.length = i ∧
      accd ++ (orderS es.length es S').1 = (orderS ds.length ds S).1 ∧ (orderS es.length es S').2 = (orderS ds.length ds S).2) ?_ (fun i Hc hi ⟨us, acc, es, accd, S', h1, h2, h3, h4, h5, h6, h7, h8, h9, h10⟩ => ?_) fun Hc ⟨us, acc, es, accd, S', h1, h2, h3, h4, h5, h6, h7, h8, h9, h10⟩ => ?_
  · exact ⟨vs, [], ds, [], S, upd_keep pD hp, hd.go (fun b o z e => ⟨upd_keep (ne_of_none e hDn) e, z⟩) (fun b o xs e => upd_keep (ne_of_none e hDn) e), r1.upd nD (noCode_none hDn), fun b o e n1 n2 => upd_keep (ne_of_none e hDn) e, upd_same, .nil, by omega, rfl, rfl, rfl⟩
  · refine ⟨rfl, ?_⟩
    show tYes _ _ _
    have hes : ∃ m, es.length = m + 1 := ⟨es.length - 1, by omega⟩
    obtain ⟨m, hm⟩ := hes
    have hul := h2.length
    rw [hm, orderS] at h9 h10
    generalize hpk : pickS (es.length : Int) S' = pk at h9 h10
    have hrg := pickS_range (m := (es.length : Int)) (S := S') (by omega)
    rw [hpk] at hrg
    have hk : pk.1.toNat < es.length := by omega
    refine ⟨_, rfl, .inl ⟨rfl, us, SqL.of h1⟩, _, rfl, _, rfl, p, us, rfl, .inl (SqL.of h1), ?_⟩
    refine ⟨_, g, G, [.src, .d (.int (us.length : Nat))], some S', .int pk.1, some pk.2, .inl rfl, fun b z => (gl b z).2.2, h3, .src hg (.cons (.int _) .nil), rfl, ?_, fun v H2 ps _ => ?_⟩
    · have hsz : sizeLine < 1606938044258990275541962092341162602522202993782792835301376 := by decide
      have hlt : ((us.length : Nat) : Int) < 1606938044258990275541962092341162602522202993782792835301376 := by omega
      simp only [pickF]
      rw [if_pos hlt, hul, hpk]
    obtain rfl := ps.dat.intE
    have hp2 : H2 p = some (.lst us) := ps.keep _ _ h1 np
    have hD2 : H2 Dn = some (.lst acc) := ps.keep _ _ h5 nD
    have hsl : sizeLine < 2 ^ 62 := by decide
    obtain ⟨y, hy, dy⟩ := (h2.keep ps.keep h3 fun b z => (gl b z).2.2).get (List.getElem?_eq_getElem hk)
    refine ⟨p, us, pk.1, pk.1.toNat, y, rfl, rfl, hp2, by omega, by omega, ?_, hy, ?_⟩
    · unfold seqIndex?
      rw [hul]
      simp only [show ¬ pk.1 < 0 by omega, if_false]
      first | (rw [if_pos (by omega)]) | (simp; omega)
    have h2' := h2.keep ps.keep h3 fun b z => (gl b z).2.2
    have h6' := h6.keep ps.keep h3 fun b z => (gl b z).2.2
    -- the two lists written
    have wr : ∀ {vs : List V} {ds : List D}, Dats w G H2 vs ds → Dats w G (upd (upd H2 p (.lst (us.eraseIdx pk.1.toNat))) Dn (.lst (acc ++ [y]))) vs ds := fun {vs ds} r =>
      r.go (fun b o z e => ⟨upd_keep (fun i => (gl b z).2.1 (by rw [i]; exact hDn)) (upd_keep (gl b z).1 e), z⟩) fun b o xs e => upd_keep (fun i => by rw [i, hD2] at e; cases e) (upd_keep (fun i => by rw [i, hp2] at e; cases e) e)
    have wr1 : ∀ {v : V} {d : PyData}, Dat w G H2 v d → Dats w G (upd (upd H2 p (.lst (us.eraseIdx pk.1.toNat))) Dn (.lst (acc ++ [y]))) [v] [d] := fun {v d} r => wr (.cons r .nil)
    have hal := h6.length
    refine ⟨acc, by rw [upd_ne (Ne.symm pD)]; exact hD2, by omega, us.eraseIdx pk.1.toNat, acc ++ [y], es.eraseIdx pk.1.toNat, accd ++ [es[pk.1.toNat]], pk.2, by rw [upd_ne pD, upd_same], wr (Dats.erase _ h2'), ?_, fun b o e n1 n2 => ?_, upd_same, ?_, ?_, by rw [List.length_append, h8]; rfl, ?_, ?_⟩
    · exact (ps.src.upd np (noCode_lst hp2)).upd nD (noCode_lst (by rw [upd_ne (Ne.symm pD)]; exact hD2))
    · exact upd_keep (ne_of_none e hDn) (upd_keep n2 (ps.keep _ _ (h4 b o e n1 n2) n1))
    · exact (wr h6').append (wr1 dy)
    · rw [List.length_eraseIdx]
      rw [if_pos hk]
      omega
    · have e1 : (es.eraseIdx pk.1.toNat).length = m := by rw [List.length_eraseIdx, if_pos hk]; omega
      rw [e1, ← h9, List.append_assoc]
      have e2 : es.getD pk.1.toNat PyData.none = es[pk.1.toNat] := by
        rw [List.getD_eq_getElem?_getD, List.getElem?_eq_getElem hk]
        rfl
      simp only [e2]
      rfl
    · have e1 : (es.eraseIdx pk.1.toNat).length = m := by rw [List.length_eraseIdx, if_pos hk]; omega
      rw [e1]
      exact h10
  · have e0 : es.length = 0 := by omega
    rw [e0, orderS, List.append_nil] at h9
    rw [e0, orderS] at h10
    subst h9
    exact q Dn Hc acc hDn h4 (by rw [← h10]; exact h3) h5 h6
end Os
end
section
set_option linter.all false
set_option maxRecDepth 100000
set_option maxHeartbeats 4000000
/-! OsY: _law_any_order entered; _law_open_cells. -/
namespace Os
open PySem PySem.Spec PyProof.Rows L2

theorem order_enter {w : World} {K : PySem.W.Frag} {T : List (Addr × Str)} : ∀ vs H Q E, spF w T orderF vs H Q E → od0 w K { nx := fun _ H' => Q .non H', rt := Q } (L2.start orderN vs) H := by
  rintro vs H Q E ⟨T', g, G, as, s, d, s', tb, gok, r, ha, hl, hs, q⟩
  unfold orderF at hs
  dsimp only at hs
  split at hs
  · rename_i x S
    obtain ⟨xs, h1, h2⟩ := bind_some hs
    split at h2
    · rename_i hz
      cases h2
      cases ha with
      | src hg ha =>
        cases ha with
        | cons hd ha =>
          cases ha
          have hb : ∃ z, dB1 .list x = some z ∧ z = .list xs := by
            cases x <;> simp [seqOf] at h1
            · subst h1
              exact ⟨_, rfl, rfl⟩
            · subst h1
              exact ⟨_, rfl, rfl⟩
          obtain ⟨z, hb, rfl⟩ := hb
          refine ⟨_, rfl, _, rfl, G, x, _, hd, hb, fun v H1 sm _ nl => ?_⟩
          obtain ⟨p, us, rfl, e3, e4, e5⟩ := (nl (.inl rfl)).list
          have r1 := r.same sm
          have np : ¬ Own2 g p := fun z => r.there z e3
          refine od_run (G := fun b => (Up G H b ∧ b ≠ p) ∧ H1 b ≠ none) hg r1 e4 np e5.live (fun b z => ⟨z.1.2, z.2, Up.gok r gok b z.1.1⟩) hz fun D H' vs2 d1 d2 d3 d4 d5 => ?_
          have aD : H D = none := Same.dead sm d1
          have nD : ∀ b, H1 b ≠ none → b ≠ D := fun b z e => z (e ▸ d1)
          refine q _ H' ⟨fun b o e n => d2 b o (sm _ _ e) n (ne_of_none e e3), d3, .list (.inr aD) d4 (d5.mono fun b z => z.1.1)⟩ fun _ => ⟨D, rfl, aD, .inl ⟨vs2, _, rfl, d4, d5.mono fun b z => ⟨z.1.1, nD b z.2⟩⟩⟩
    · cases h2
  · cases hs

/-! ### _law_open_cells -/
def absI (i : Int) : Int := if i < 0 then -i else i
def stirS : Int → List Int → Int
  | y, [] => y
  | y, x :: r => stirS ((y * 69069 + x * 31 + 5) % 2147483629) r
def openS (ns : List Int) : Src := ⟨(ns.map absI).reverse, 1, stirS 11 ns, 0⟩
def openN : List Str := ["_law_script", "_law_stirred", "_law_cell", "_law_cells"]
def spOpen (K : PySem.W.Frag) : Sp := fun vs H Q _ => ∃ (l : Addr) (ns : List Int), vs = [.ref l] ∧ SqL K H l (ns.map V.int) ∧ ns.length ≤ sizeLine ∧
  ∀ a c H', Same H H' → H a = none → H c = none → a ≠ c → H' a = some (.dK (kvS c (openS ns))) → H' c = some (.lst ((openS ns).cells.map V.int)) → Q (.ref a) H'
def op3 (K : PySem.W.Frag) : TS := tRet (tDisp [(tC (.str "cells"), tRevL K (tVar 3)), (tC (.str "left"), tC (.int 1)), (tC (.str "mixed"), tVar 1), (tC (.str "turn"), tC (.int 0))])
def op2 (w : World) (K : PySem.W.Frag) : TS := tSeq (tAsg (tLc (iList K (tVar 0)) (gName 2) tYes (tCB (rB1N w .abs) (tCons (tVar 2) tNil)) [2]) (gName 3)) (op3 K)
def op1b (w : World) : TS := tAsg (tOp rModI (tInt1 w (tOp rAddI (tOp rAddI (tOp rMulI (tVar 1) (tC (.int 69069))) (tOp rMulI (tVar 2) (tC (.int 31)))) (tC (.int 5)))) (tC (.int 2147483629))) (gName 1)
def op1 (w : World) (K : PySem.W.Frag) : TS := tSeq (tFor (iList K (tVar 0)) (gName 2) (op1b w)) (op2 w K)
def op0 (w : World) (K : PySem.W.Frag) : TS := tSeq (tAsg (tC (.int 11)) (gName 1)) (op1 w K)

theorem sSK1 : mergeK [] [((.inr "cells" : Key), v1), (.inr "left", v2), (.inr "mixed", v3), (.inr "turn", v4)] = [((.inr "cells" : Key), v1), (.inr "left", v2), (.inr "mixed", v3), (.inr "turn", v4)] := by
  have h1 : ¬ (("cells" : Str) = "mixed") := by decide +kernel
  have h2 : ¬ (("left" : Str) = "mixed") := by decide +kernel
  have h3 : ¬ (("cells" : Str) = "left") := by decide +kernel
  have h4 : ¬ (("cells" : Str) = "turn") := by decide +kernel
  have h5 : ¬ (("left" : Str) = "turn") := by decide +kernel
  have h6 : ¬ (("mixed" : Str) = "turn") := by decide +kernel
  simp [mergeK, putK, h1, h2, h3, h4, h5, h6]
theorem open_enter {w : World} {K : PySem.W.Frag} : ∀ vs H Q E, spOpen K vs H Q E → op0 w K { nx := fun _ H' => Q .non H', rt := Q } (L2.start openN vs) H := by
  rintro vs H Q E ⟨l, ns, rfl, hs, hz, q⟩
  show op1 w K _ [some (.ref l), some (.int 11), none, none] H
  refine ⟨_, rfl, l, rfl, ⟨_, hs⟩, for_list (xs := ns.map V.int) (fun i σ H' => ∃ (y : Int) (o : Option V), σ = [some (.ref l), some (.int y), o, none] ∧ Same H H' ∧ stirS y (ns.drop i) = stirS 11 ns) ⟨11, none, rfl, Same.refl H, by simp⟩ (fun i σ H' _ ⟨y, o, _, sm, _⟩ => sm.seq hs) (fun i x σ H' hx ⟨y, o, e, sm, st⟩ => ?_) fun σ H' ⟨y, o, e, sm, st⟩ => ?_⟩
  · subst e
    rw [List.getElem?_map] at hx
    obtain ⟨z, hz1, rfl⟩ := map_some hx
    have hdr : ns.drop i = z :: ns.drop (i + 1) := by
      obtain ⟨hl, hv⟩ := List.getElem?_eq_some_iff.mp hz1
      rw [← hv]
      exact List.drop_eq_getElem_cons hl
    rw [hdr, stirS] at st
    show op1b w _ [some (.ref l), some (.int y), some (.int z), none] H'
    refine ⟨_, rfl, _, 69069, rfl, rfl, .inr (by decide), _, rfl, z, 31, rfl, rfl, .inr (by decide), _, _, rfl, rfl, _, 5, rfl, rfl, intQ rfl fun H2 k2 => ?_⟩
    exact ⟨_, 2147483629, rfl, rfl, show (0 : Int) < 2147483629 by decide, _, some (.int z), rfl, sm.trans k2, st⟩
  · subst e
    have e0 : ns.drop (ns.map V.int).length = [] := by rw [List.length_map]; exact List.drop_length ..
    rw [e0, stirS] at st
    subst st
    refine ⟨_, rfl, l, rfl, ⟨_, sm.seq hs⟩, fun Dn hD => ?_⟩
    have lcl := fun (Hc : Hp) (k : Same H' Hc) => k.seq (sm.seq hs)
    refine lc_list (xs := ns.map V.int) (fun i Hc => Same H' Hc ∧ Hc Dn = some (.lst (((ns.take i).map absI).map V.int))) ⟨same_new hD, by simpa using upd_same⟩ (fun i Hc _ ⟨k, _⟩ => lcl Hc k) (fun i x Hc hx ⟨k, hc⟩ => ?_) fun Hc ⟨k, hc⟩ => ?_
    · rw [List.getElem?_map] at hx
      obtain ⟨z, hz1, rfl⟩ := map_some hx
      obtain ⟨hl, hv⟩ := List.getElem?_eq_some_iff.mp hz1
      refine ⟨rfl, ?_⟩
      show tYes _ _ _
      refine ⟨_, rfl, intQ (j := absI z) rfl fun H2 k2 => ?_⟩
      refine ⟨_, k2 _ _ hc, by simp; omega, fun b o e => upd_keep (ne_of_none e hD) (k2 _ _ (k _ _ e)), ?_⟩
      rw [upd_same, List.take_succ, hz1]
      simp
    · have e1 : ns.take (ns.map V.int).length = ns := by rw [List.length_map]; exact List.take_length ..
      rw [e1] at hc
      show op3 K _ [some (.ref l), some (.int (stirS 11 ns)), o, some (.ref Dn)] Hc
      intro a ha
      have nDa : Dn ≠ a := ne_of_none hc ha
      refine ⟨_, rfl, Dn, _, rfl, SqL.of (upd_keep nDa hc), fun c hcn => ⟨_, rfl, upd_keep (fun z => by rw [← z, upd_same] at hcn; cases hcn) upd_same, [(.inr "cells", .ref c), (.inr "left", .int 1), (.inr "mixed", .int (stirS 11 ns)), (.inr "turn", .int 0)], rfl, by show 4 ≤ 15; decide, ?_⟩⟩
      rw [sSK1]
      have nac : a ≠ c := fun z => by
        rw [← z, upd_same] at hcn
        cases hcn
      have hcc : Hc c = none := by
        rw [upd_ne (Ne.symm nac)] at hcn
        exact hcn
      have dead : ∀ b, Hc b = none → H b = none := fun b z => Same.dead (sm.trans k) z
      refine q a c _ (fun b o e => ?_) (dead a ha) (dead c hcc) nac upd_same ?_
      · have e1 := (sm.trans k) _ _ e
        exact upd_keep (ne_of_none e1 ha) (upd_keep (ne_of_none e1 hcc) (upd_keep (ne_of_none e1 ha) e1))
      · rw [upd_ne (Ne.symm nac), upd_same]
        simp [openS]
end Os
end
section
set_option linter.all false
set_option maxRecDepth 100000
set_option maxHeartbeats 4000000
/-! OsZ: plain facts for the laws' answers: texts told, loops, orders. -/
namespace Os
open PySem PySem.Spec PyProof.Rows L2

mutual
/-- ints of twelve figures, signs in range, no dict -/
def okD : D → Bool
  | .none => true
  | .bool _ => true
  | .int i => decide (i.natAbs < 10 ^ 13)
  | .str x => PyData.strOk x
  | .list xs => okAll xs
  | .tuple xs => okAll xs
  | .dict _ => false
def okAll : List D → Bool
  | [] => true
  | x :: xs => okD x && okAll xs
end
theorem okAll_iff : ∀ {xs : List D}, okAll xs = true ↔ ∀ x ∈ xs, okD x = true
  | [] => by simp [okAll]
  | x :: xs => by simp [okAll, okAll_iff (xs := xs)]
mutual
theorem ok_lay : ∀ {d : D}, okD d = true → d.canLay0 = true
  | .none, _ => by simp [PyData.canLay0]
  | .bool _, _ => by simp [PyData.canLay0]
  | .int _, _ => by simp [PyData.canLay0]
  | .str x, h => by simpa [PyData.canLay0, okD] using h
  | .list xs, h => by simpa [PyData.canLay0] using ok_layA (xs := xs) (by simpa [okD] using h)
  | .tuple xs, h => by simpa [PyData.canLay0] using ok_layA (xs := xs) (by simpa [okD] using h)
  | .dict _, h => by simp [okD] at h
theorem ok_layA : ∀ {xs : List D}, okAll xs = true → PyData.canLayAll0 xs = true
  | [], _ => by simp [PyData.canLayAll0]
  | x :: xs, h => by
    rw [okAll, Bool.and_eq_true] at h
    simp [PyData.canLayAll0, ok_lay h.1, ok_layA h.2]
end
theorem shown13 {i : Int} (h : i.natAbs < 10 ^ 13) : (PyData.shown (.int i)).length ≤ 14 := by
  have e := int_text_length_le10 (k := 13) (by decide) h
  show (Str.ofString (toString i)).length ≤ 14
  rw [PySem.ofString_length]
  exact e
mutual
theorem ok_short : ∀ {d : D}, okD d = true → d.intsShort 14 = true
  | .none, _ => by simp [PyData.intsShort]
  | .bool _, _ => by simp [PyData.intsShort]
  | .int i, h => by
    have h' : i.natAbs < 10 ^ 13 := by simpa [okD] using h
    simpa [PyData.intsShort] using shown13 h'
  | .str x, h => by simp [PyData.intsShort]
  | .list xs, h => by simpa [PyData.intsShort] using ok_shortA (xs := xs) (by simpa [okD] using h)
  | .tuple xs, h => by simpa [PyData.intsShort] using ok_shortA (xs := xs) (by simpa [okD] using h)
  | .dict _, h => by simp [okD] at h
theorem ok_shortA : ∀ {xs : List D}, okAll xs = true → PyData.intsShortAll 14 xs = true
  | [], _ => by simp [PyData.intsShortAll]
  | x :: xs, h => by
    rw [okAll, Bool.and_eq_true] at h
    simp [PyData.intsShortAll, ok_short h.1, ok_shortA h.2]
end
theorem log12 {i : Int} (h : i.natAbs < 10 ^ 13) : i.natAbs.log2 < 1920 := by
  by_cases h0 : i.natAbs = 0
  · rw [h0]
    decide
  · have : i.natAbs < 2 ^ 44 := Nat.lt_trans h (by decide)
    have := (Nat.log2_lt h0).mpr this
    omega
mutual
theorem ok_showable : ∀ {d : D}, okD d = true → d.showable = true
  | .none, _ => by simp [PyData.showable]
  | .bool _, _ => by simp [PyData.showable]
  | .int i, h => by
    have h' : i.natAbs < 10 ^ 13 := by simpa [okD] using h
    simpa [PyData.showable] using log12 h'
  | .str x, h => by simp [PyData.showable]
  | .list xs, h => by simpa [PyData.showable] using ok_showableA (xs := xs) (by simpa [okD] using h)
  | .tuple xs, h => by simpa [PyData.showable] using ok_showableA (xs := xs) (by simpa [okD] using h)
  | .dict _, h => by simp [okD] at h
theorem ok_showableA : ∀ {xs : List D}, okAll xs = true → PyData.showableAll xs = true
  | [], _ => by simp [PyData.showableAll]
  | x :: xs, h => by
    rw [okAll, Bool.and_eq_true] at h
    simp [PyData.showableAll, ok_showable h.1, ok_showableA h.2]
end
/-- small enough to be told -/
structure Tm (k n : Nat) (d : D) : Prop where
  ok : okD d = true
  dp : d.depth ≤ k
  bk : d.bulk ≤ n
theorem Tm.mono {k n k' n' : Nat} {d : D} (h : Tm k n d) (h1 : k ≤ k') (h2 : n ≤ n') : Tm k' n' d := ⟨h.ok, Nat.le_trans h.dp h1, Nat.le_trans h.bk h2⟩
theorem Tm.none {k n : Nat} : Tm k n .none := ⟨rfl, Nat.zero_le _, Nat.zero_le _⟩
theorem Tm.bool {k n : Nat} (b : Bool) : Tm k n (.bool b) := ⟨rfl, Nat.zero_le _, Nat.zero_le _⟩
theorem Tm.int {k n : Nat} {i : Int} (h : i.natAbs < 10 ^ 13) : Tm k n (.int i) := ⟨by simpa [okD] using h, Nat.zero_le _, by simp [PyData.bulk]⟩
theorem Tm.str {k n : Nat} {x : Str} (h : PyData.strOk x = true) (hl : x.length ≤ n) : Tm k n (.str x) := ⟨by simpa [okD] using h, Nat.zero_le _, by simp only [PyData.bulk]; exact hl⟩
theorem bulkAll_le {m : Nat} : ∀ {xs : List D}, (∀ x ∈ xs, x.bulk ≤ m) → PyData.bulkAll xs ≤ xs.length * (m + 1)
  | [], _ => by simp [PyData.bulkAll]
  | x :: xs, h => by
    have h1 := bulkAll_le (xs := xs) fun y hy => h y (List.mem_cons_of_mem _ hy)
    have h2 := h x List.mem_cons_self
    simp only [PyData.bulkAll, List.length_cons, Nat.add_mul]
    omega
theorem depthAll_le {k : Nat} : ∀ {xs : List D}, (∀ x ∈ xs, x.depth ≤ k) → PyData.depthAll xs ≤ k
  | [], _ => by simp [PyData.depthAll]
  | x :: xs, h => by
    have h1 := depthAll_le (xs := xs) fun y hy => h y (List.mem_cons_of_mem _ hy)
    have h2 := h x List.mem_cons_self
    simp only [PyData.depthAll]
    omega
theorem Tm.list {k m n : Nat} {xs : List D} (h : ∀ x ∈ xs, Tm k m x) (hn : xs.length * (m + 1) ≤ n) : Tm (k + 1) n (.list xs) :=
  ⟨by simpa [okD] using okAll_iff.mpr fun x hx => (h x hx).ok, by simpa [PyData.depth] using depthAll_le fun x hx => (h x hx).dp, by
    have := bulkAll_le (m := m) (xs := xs) fun x hx => (h x hx).bk
    simp only [PyData.bulk]
    omega⟩
theorem Tm.tup {k m n : Nat} {xs : List D} (h : ∀ x ∈ xs, Tm k m x) (hn : xs.length * (m + 1) ≤ n) : Tm (k + 1) n (.tuple xs) :=
  ⟨by simpa [okD] using okAll_iff.mpr fun x hx => (h x hx).ok, by simpa [PyData.depth] using depthAll_le fun x hx => (h x hx).dp, by
    have := bulkAll_le (m := m) (xs := xs) fun x hx => (h x hx).bk
    simp only [PyData.bulk]
    omega⟩
theorem Tm.shaped {k n : Nat} {d : D} (h : Tm k n d) (hk : k ≤ 64) : SeqAt.shaped d = true := by
  unfold SeqAt.shaped
  rw [Bool.and_eq_true]
  exact ⟨ok_lay h.ok, decide_eq_true (Nat.le_trans h.dp hk)⟩
theorem Tm.repr {k n : Nat} {d : D} (h : Tm k n d) (hk : k ≤ 60) (hn : n ≤ 1048000) : dRepr d = some (.str d.shown) := by
  unfold dRepr
  have h1 := ok_showable h.ok
  have h2 := PyData.hasDict_of_canLay d (ok_lay h.ok)
  have h3 : d.depth ≤ 60 := Nat.le_trans h.dp hk
  have h4 : d.shown.length ≤ sizeLine := by
    have e := PyData.shown_le_bulk 14 (by decide) d (PyData.leavesShort_of_canLay0 14 d (ok_lay h.ok) (ok_short h.ok))
    have e2 : (14 + 2) * d.bulk ≤ 16 * 1048000 := Nat.mul_le_mul (by decide) (Nat.le_trans h.bk hn)
    rw [sizeLine_eq]
    omega
  rw [if_pos ⟨h1, .inl h2, h3, h4⟩]
theorem Tm.eqv {k n : Nat} {d : D} (h : Tm k n d) : PyData.eqv d d = true := SeqAt.eqv_refl d (ok_lay h.ok)

/-! ### comprehensions, loops -/
theorem compRun_pure {ft : LS → S1 → Option (Bool × S1)} {fe : LS → S1 → Option (D × S1)} {t : MT} {ρ : LS} {s : S1} (p : D → Bool) (f : D → D) : ∀ {xs : List D}, (∀ x ∈ xs, ∃ ρ1, bindT t x ρ = some ρ1 ∧ ft ρ1 s = some (p x, s) ∧ (p x = true → fe ρ1 s = some (f x, s))) →
    compRun ft fe t ρ xs s = some ((xs.filter p).map f, s)
  | [], _ => rfl
  | x :: xs, h => by
    obtain ⟨ρ1, h1, h2, h3⟩ := h x List.mem_cons_self
    have ih := compRun_pure p f (xs := xs) fun y hy => h y (List.mem_cons_of_mem _ hy)
    rw [compRun, h1]
    simp only [Option.bind, h2]
    cases hp : p x with
    | true =>
      simp only [h3 hp, ih, if_true, Option.map]
      rw [List.filter_cons_of_pos hp, List.map_cons]
    | false =>
      simp only [ih, Bool.false_eq_true, if_false]
      rw [List.filter_cons_of_neg (by simp [hp])]
theorem compRun_map {ft : LS → S1 → Option (Bool × S1)} {fe : LS → S1 → Option (D × S1)} {t : MT} {ρ : LS} {s : S1} (f : D → D) {xs : List D} (h : ∀ x ∈ xs, ∃ ρ1, bindT t x ρ = some ρ1 ∧ ft ρ1 s = some (true, s) ∧ fe ρ1 s = some (f x, s)) : compRun ft fe t ρ xs s = some (xs.map f, s) := by
  rw [compRun_pure (fun _ => true) f fun x hx => let ⟨ρ1, h1, h2, h3⟩ := h x hx; ⟨ρ1, h1, h2, fun _ => h3⟩, List.filter_eq_self.mpr fun _ _ => rfl]
theorem forRun_ind {f : LSS → S1 → Option Res} {t : MT} (P : Nat → LSS → S1 → Prop) : ∀ (xs : List D) (k : Nat) {ρ : LSS} {s : S1}, P k ρ s →
    (∀ i x ρ s, xs[i]? = some x → P (k + i) ρ s → ∃ ρ1 ρ2 s2, bindS t x ρ = some ρ1 ∧ (f ρ1 s = some (.nx ρ2 s2) ∨ f ρ1 s = some (.ct ρ2 s2)) ∧ P (k + i + 1) ρ2 s2) → ∃ ρ' s', forRun f t xs ρ s = some (.nx ρ' s') ∧ P (k + xs.length) ρ' s'
  | [], k, ρ, s, h, _ => ⟨ρ, s, rfl, h⟩
  | x :: xs, k, ρ, s, h, hs => by
    obtain ⟨ρ1, ρ2, s2, h1, h2, h3⟩ := hs 0 x ρ s rfl h
    obtain ⟨ρ', s', h4, h5⟩ := forRun_ind P xs (k + 1) (ρ := ρ2) (s := s2) h3 fun i y ρ3 s3 hy hp => by
      have e : k + 1 + i = k + (i + 1) := by omega
      rw [e] at hp ⊢
      exact hs (i + 1) y ρ3 s3 (by simpa using hy) hp
    refine ⟨ρ', s', ?_, by rw [List.length_cons]; rw [show k + (xs.length + 1) = k + 1 + xs.length by omega]; exact h5⟩
    rw [forRun, h1]
    rcases h2 with h2 | h2
    · simp only [Option.bind, h2]
      exact h4
    · simp only [Option.bind, h2]
      exact h4
theorem erase_perm : ∀ {xs : List D} {i : Nat} (h : i < xs.length), (xs[i] :: xs.eraseIdx i).Perm xs
  | x :: xs, 0, h => .refl _
  | x :: xs, i + 1, h => by
    have h' : i < xs.length := by simpa using h
    simp only [List.getElem_cons_succ, List.eraseIdx_cons_succ]
    exact (List.Perm.swap _ _ _).trans (List.Perm.cons _ (erase_perm h'))
theorem orderS_perm : ∀ (n : Nat) (xs : List D) (S : Src), xs.length = n → (orderS n xs S).1.Perm xs
  | 0, xs, S, h => by
    cases xs with
    | nil => exact .refl _
    | cons => cases h
  | n + 1, xs, S, h => by
    have hr := pickS_range (m := (xs.length : Int)) (S := S) (by omega)
    have hk : (pickS xs.length S).1.toNat < xs.length := by omega
    rw [orderS]
    have ih := orderS_perm n (xs.eraseIdx (pickS xs.length S).1.toNat) (pickS xs.length S).2 (by rw [List.length_eraseIdx, if_pos hk]; omega)
    have e : xs.getD (pickS xs.length S).1.toNat .none = xs[(pickS xs.length S).1.toNat] := by
      rw [List.getD_eq_getElem?_getD, List.getElem?_eq_getElem hk]
      rfl
    simp only [e]
    exact (List.Perm.cons _ ih).trans (erase_perm hk)
end Os
namespace Os
open PySem PySem.Spec PyProof.Rows L2
section
variable {Φ : List FE} {ρ ρ1 : LSS} {s s1 s2 : S1} {d x : D} {R : Option Res}
theorem sem_rt {fr : Bool} {n : Nat} {ms : MSs} {as : List SL} (ρ : LSS) (hρ : as.map argS ++ List.replicate (n - as.length) .un = ρ) (h : runs Φ ms ρ s = some (.rt d s1)) : semOf Φ fr n ms as s = some (d, s1) := by
  unfold semOf
  rw [hρ, h]
  rfl
theorem runs_rt {m : MS} {r : MSs} (h : run Φ m ρ s = some (.rt d s1)) : runs Φ (.cons m r) ρ s = some (.rt d s1) := by
  rw [runs, h]
  rfl
theorem runs_nx {m : MS} {r : MSs} (ρ1 : LSS) (s1 : S1) (h : run Φ m ρ s = some (.nx ρ1 s1)) (k : runs Φ r ρ1 s1 = R) : runs Φ (.cons m r) ρ s = R := by
  rw [runs, h]
  exact k
theorem run_ret {e : ME} (h : ev Φ e (ρ.map SS.r) s = some (d, s1)) : run Φ (.ret e) ρ s = some (.rt d s1) := by
  rw [run, h]
  rfl
theorem run_set {i : Nat} {md : Mode} {e : ME} {y : SS} (h : ev Φ e (vw md ρ) s = some (d, s1)) (h2 : slotOf Φ md e d = some y) (hi : i < ρ.length) : run Φ (.set i md e) ρ s = some (.nx (ρ.set i y) s1) := by
  rw [run, evM, h]
  simp only [Option.bind, h2, Option.map, hi, if_true]
theorem run_t {c : ME} {a b : MSs} (h : ev Φ c (ρ.map SS.r) s = some (x, s1)) (ht : tru x = some true) (k : runs Φ a ρ s1 = R) : run Φ (.ite c a b) ρ s = R := by
  rw [run, h]
  simp only [Option.bind, ht, if_true]
  exact k
theorem run_f {c : ME} {a b : MSs} (h : ev Φ c (ρ.map SS.r) s = some (x, s1)) (ht : tru x = some false) (k : runs Φ b ρ s1 = R) : run Φ (.ite c a b) ρ s = R := by
  rw [run, h]
  simp only [Option.bind, ht, Bool.false_eq_true, if_false]
  exact k
/-- a guard that is not taken -/
theorem run_skip {c : ME} {a : MSs} (h : ev Φ c (ρ.map SS.r) s = some (.bool false, s1)) : run Φ (.ite c a .nil) ρ s = some (.nx ρ s1) := run_f h rfl rfl
theorem run_for {t : MT} {it : MI} {b : MSs} {xs : List D} (h : evi Φ it (ρ.map SS.f) s = some (xs, s1)) (k : forRun (runs Φ b) t xs ρ s1 = R) : run Φ (.for_ t it b) ρ s = R := by
  rw [run, h]
  exact k
theorem ev_comp {elt : ME} {t : MT} {it : MI} {ifs : MEs} {own : List Nat} {ρ : LS} {xs ys : List D} (h : evi Φ it ρ s = some (xs, s1)) (hc : compRun (evt Φ ifs) (ev Φ elt) t (wipeS ρ own) xs s1 = some (ys, s2)) (hz : ys.length ≤ sizeLine) : ev Φ (.comp elt t it ifs own) ρ s = some (.list ys, s2) := by
  rw [ev, h]
  simp only [Option.bind, hc, hz, if_true]
theorem runs_nil : runs Φ .nil ρ s = some (.nx ρ s) := rfl
end
end Os
end
section
set_option linter.all false
set_option maxRecDepth 100000
set_option maxHeartbeats 2000000
/-! OwD: the law's call, where no repr runs; tables of code objects, empty as it begins. -/
namespace Os
open PySem PySem.Spec PyProof.Rows L2
/-- what the law's call must leave -/
def LawEnd (s₁ : Shared) (r : Result) (s' : Shared) : Prop := r = .ok (.ret (.bool true)) ∧ OldK s₁.heap s'.heap ∧ s'.os = s₁.os ∧ AllBare s'.gens
/-- an empty table -/
abbrev tab0 : Obj := { cls := .none, data := .fields #[] }
/-- what may be tracked as the law begins -/
structure Beg (K : PySem.W.Frag) (cs : List (Addr × Addr)) (a : Addr) (h : Heap) (H : Hp) : Prop where
  tabs : ∀ p ∈ cs, H p.2 = some (.tbl #[])
  emp : ∀ p ∈ cs, h.get? p.2 = some tab0
  head : ∀ p ∈ cs, PySem.W.CodeHd h p.1 p.2
  out : ∀ p ∈ cs, K.lookup p.2 = none
  own : ∀ b, H b ≠ none → (∃ p ∈ cs, b = p.2) ∨ (b = a ∧ K.lookup a = none ∧ ∃ o xs, H b = some (.frz o (.lst xs)))
section
variable {P : Program} {w : World} {K : PySem.W.Frag} {mg mb : Str → Option Value} {k : Nat} {fa a : Addr} {fd : FuncData} {x : Str} {sp : Sp} {s₁ : Shared} {H : Hp} {cs : List (Addr × Addr)}
theorem law_leftT {r : Result} {s' : Shared} {E : XK} (B : Beg K cs a s₁.heap H) (hok : HOk P w H s₁.heap) (h : CR CX0 [] P w H s₁ (fun v _ => v = .bl true) E r s') : LawEnd s₁ r s' := by
  match r, h with
  | .ok (.ret u), h =>
    obtain ⟨v, H', o1, o2, un, ok2, rv, q⟩ := h
    cases (show v = .bl true from q)
    cases (show u = Value.bool true from rv)
    have grown : ∀ p ∈ cs, ∃ more : Array Value, s'.heap.get? p.2 = some { cls := .none, data := .fields more } := by
      intro p hp
      obtain ⟨more, z⟩ := un.tbls p.2 #[] (B.tabs p hp)
      exact Exists.intro _ (ok2 p.2 _ z)
    have stays : ∀ b o, (¬ ∃ p ∈ cs, b = p.2) → s₁.heap.get? b = some o → s'.heap.get? b = some o := by
      intro b o nt e
      cases z : H b with
      | none => exact un.keep b o e z (fun z => nomatch z) (fun z => nomatch z)
      | some u =>
        rcases B.own b (by rw [z]; simp) with t | ⟨_, _, ob, xs, t⟩
        · exact absurd t nt
        · have g1 := (hok b _ t).1
          have g2 := (ok2 b _ (un.frzs b ob _ t)).1
          rw [e] at g1
          cases g1
          exact g2
    refine ⟨rfl, ⟨?_, ?_⟩, o1, o2⟩
    · intro b o e
      by_cases t : ∃ p ∈ cs, b = p.2
      · obtain ⟨p, hp, rfl⟩ := t
        obtain ⟨more, hm⟩ := grown p hp
        right
        left
        have e0 := B.emp p hp
        rw [e] at e0
        cases e0
        exact ⟨((B.head p hp).tab (B.emp p hp)).isCodeTable, rfl, #[], more, rfl, by rw [Array.empty_append]; exact hm⟩
      · left
        exact stays b o t e
    · intro b o e
      by_cases t : ∃ p ∈ cs, b = p.2
      · obtain ⟨p, hp, rfl⟩ := t
        obtain ⟨more, hm⟩ := grown p hp
        exact Exists.intro _ hm
      · exact Exists.intro o (stays b o t e)
theorem law_baseT (B : Beg K cs a s₁.heap H) (hok : HOk P w H s₁.heap) (KX : K.In s₁.heap) (hns : s₁.heap.Ns mainGlobals mg) (hb : s₁.heap.Ns builtinsNs mb) (hbb : ∀ x : Str, x ≠ "__name__" → mb x = bootBuiltins x) (hlim : s₁.heap.NoLimit) (hg : s₁.gens = #[])
    (hbm : ∃ (bm : Addr) (ob : Obj), mg "__builtins__" = some (.ref bm) ∧ bm ≠ builtinsNs ∧ s₁.heap.get? bm = some ob ∧ ob.cls = .type "module" ∧ ob.dict = some builtinsNs ∧ ob.data = .plain)
    {vs : List Value} (ha : s₁.heap.get? a = some { cls := .type "list", data := .seq vs.toArray }) (hr : RoomG k callerA) (F : ∀ base : Heap, K.In base → base.Ns mainGlobals mg → (∀ p ∈ cs, LamX.TabB base mg p.1 p.2) → FnG P w K mg base k fa fd [x] sp)
    (hbind : ∀ (s : Shared) (u : Value), BindsTo s fd ⟨[u], []⟩ [(x, u)]) (hsp : sp [.ref a] H (fun v _ => v = .bl true) fun _ _ _ => False) : codeAny (model P w) callerA (.call (.ref fa) ⟨[.ref a], []⟩) (LawEnd s₁) s₁ := by
  -- an object that is neither the script nor a table is not tracked
  have free : ∀ {b : Addr} {o : Obj}, s₁.heap.get? b = some o → (∀ (us : Array Value) (n : Nat), o.data ≠ .seq us n) → o.data ≠ .fields #[] → H b = none := by
    intro b o e n1 n2
    cases q : H b with
    | none => rfl
    | some u =>
      exfalso
      rcases B.own b (by rw [q]; simp) with ⟨p, hp, rfl⟩ | ⟨rfl, _⟩
      · rw [B.emp p hp] at e
        cases e
        exact n2 rfl
      · rw [ha] at e
        cases e
        exact n1 _ _ rfl
  have names : ∀ {b : Addr} {m : Str → Option Value}, s₁.heap.Ns b m → (hidT s₁.heap H).Ns b m := by
    intro b m hn
    obtain ⟨o, es, ep, e, d, r⟩ := hn
    exact ⟨o, es, ep, hidT_get e (free e (fun us n z => by rw [d] at z; cases z) fun z => by rw [d] at z; cases z), d, r⟩
  have inK : K.In (hidT s₁.heap H) := by
    intro b o e
    apply hidT_get (KX b o e)
    cases q : H b with
    | none => rfl
    | some u =>
      rcases B.own b (by rw [q]; simp) with ⟨p, hp, rfl⟩ | ⟨rfl, n, _⟩
      · rw [B.out p hp] at e
        cases e
      · rw [n] at e
        cases e
  obtain ⟨mc, l1, l2⟩ := hlim
  have M : Mod K mg (hidT s₁.heap H) := { kin := inK, glob := names hns, blt := ⟨mb, names hb, hbb⟩, nolimit := ⟨mc, names l1, l2⟩ }
  have tb : ∀ p ∈ cs, LamX.TabB (hidT s₁.heap H) mg p.1 p.2 := by
    intro p hp
    obtain ⟨od, ox, oe, om, om2⟩ := hns
    obtain ⟨bm, ob, b1, b2, b3, b4, b5, b6⟩ := hbm
    constructor
    · obtain ⟨o, us, file, tf, flags, tg, inF, text, tt, e1, r1, r2, r3, r4⟩ := B.head p hp
      exact ⟨o, us, file, tf, flags, tg, inF, text, tt, hidT_get e1 (free e1 (fun us2 n z => by rw [r2] at z; cases z) fun z => by rw [r2] at z; cases z; simp at r3), r1, r2, r3, r4⟩
    · refine ⟨bm, ob, b1, b2, fun z => ?_, fun z => ?_, hidT_get b3 (free b3 (fun us n z => by rw [b6] at z; cases z) fun z => by rw [b6] at z; cases z), b4, b5, b6⟩
      · rw [z, om] at b3
        cases b3
        rw [om2.1] at b6
        cases b6
      · rw [z, B.emp p hp] at b3
        cases b3
        cases b6
    · intro z
      rw [z, B.emp p hp] at om
      cases om
      cases om2.1
  have e0 : Env0 P w K mg (hidT s₁.heap H) callerA [] s₁ H := { frames := rfl, mod := M, bs := fun b o e => of_hidT e, bsz := Nat.le_of_eq (hidT_size _ _), funs := trivial, frf := fun b z => (nomatch z), hok := hok, bare := .of_eq hg }
  exact codeAny_mono ((F _ inK (names hns) tb).go callerA [] s₁ H ⟨[.ref a], []⟩ [.ref a] [.ref a] _ _ hr e0 (hbind s₁ (.ref a)) (.cons rfl .nil) hsp) fun r s' h => law_leftT B hok h
theorem law_callT {vs : List Value} {ns : List Int} (KX : K.In s₁.heap) (hns : s₁.heap.Ns mainGlobals mg) (hb : s₁.heap.Ns builtinsNs mb) (hbb : ∀ x : Str, x ≠ "__name__" → mb x = bootBuiltins x) (hlim : s₁.heap.NoLimit) (hg : s₁.gens = #[])
    (hbm : ∃ (bm : Addr) (ob : Obj), mg "__builtins__" = some (.ref bm) ∧ bm ≠ builtinsNs ∧ s₁.heap.get? bm = some ob ∧ ob.cls = .type "module" ∧ ob.dict = some builtinsNs ∧ ob.data = .plain)
    (emp : ∀ p ∈ cs, s₁.heap.get? p.2 = some tab0) (out : ∀ p ∈ cs, K.lookup p.2 = none) (hd : ∀ p ∈ cs, PySem.W.CodeHd s₁.heap p.1 p.2)
    (ha : s₁.heap.get? a = some { cls := .type "list", data := .seq vs.toArray }) (hi : IntsAre vs ns) (hl : ns.length ≤ sizeLine) (hr : RoomG k callerA) (F : ∀ base : Heap, K.In base → base.Ns mainGlobals mg → (∀ p ∈ cs, LamX.TabB base mg p.1 p.2) → FnG P w K mg base k fa fd [x] sp)
    (hbind : ∀ (s : Shared) (u : Value), BindsTo s fd ⟨[u], []⟩ [(x, u)]) (hsp : ∀ H : Hp, (∀ p ∈ cs, H p.2 = some (.tbl #[])) → SqL K H a (ns.map V.int) → sp [.ref a] H (fun v _ => v = .bl true) fun _ _ _ => False) : codeAny (model P w) callerA (.call (.ref fa) ⟨[.ref a], []⟩) (LawEnd s₁) s₁ := by
  have rel := vals_ints hi
  have isT : ∀ b, (∃ p ∈ cs, b = p.2) → s₁.heap.get? b = some tab0 := by
    intro b hb
    obtain ⟨p, hp, rfl⟩ := hb
    exact emp p hp
  have aT : ¬ ∃ p ∈ cs, a = p.2 := by
    intro z
    have e := isT a z
    rw [ha] at e
    cases (congrArg Obj.data (Option.some.inj e) : Data.seq vs.toArray _ = Data.fields #[])
  cases hk : K.lookup a with
  | some o =>
    have e := KX a o hk
    rw [ha] at e
    cases e
    have at_ : ∀ p ∈ cs, (if ∃ p' ∈ cs, p.2 = p'.2 then some (HO.tbl #[]) else none) = some (HO.tbl #[]) := fun p hp => if_pos ⟨p, hp, rfl⟩
    refine law_baseT (H := fun b => if ∃ p ∈ cs, b = p.2 then some (.tbl #[]) else none) ⟨at_, emp, hd, out, fun b z => ?_⟩ (fun b u z => ?_) KX hns hb hbb hlim hg hbm ha hr F hbind (hsp _ at_ (.inr ⟨_, vs.toArray, _, hk, rfl, rfl, rfl, ?_, by simpa using rel⟩))
    · by_cases t : ∃ p ∈ cs, b = p.2
      · exact .inl t
      · exact absurd (if_neg t) z
    · by_cases t : ∃ p ∈ cs, b = p.2
      · have z2 := (if_pos t).symm.trans z
        cases z2
        exact isT b t
      · have z2 := (if_neg t).symm.trans z
        cases z2
    · rw [List.size_toArray, hi.length]
      exact hl
  | none =>
    have at_ : ∀ p ∈ cs, (if p.2 = a then some (HO.frz { cls := .type "list", data := .seq vs.toArray } (.lst (ns.map V.int))) else if ∃ p' ∈ cs, p.2 = p'.2 then some (HO.tbl #[]) else none) = some (HO.tbl #[]) := fun p hp => by
      rw [if_neg (fun z => aT ⟨p, hp, z.symm⟩), if_pos ⟨p, hp, rfl⟩]
    refine law_baseT (H := fun b => if b = a then some (.frz { cls := .type "list", data := .seq vs.toArray } (.lst (ns.map V.int))) else if ∃ p ∈ cs, b = p.2 then some (.tbl #[]) else none) ⟨at_, emp, hd, out, fun b z => ?_⟩ (fun b u z => ?_) KX hns hb hbb hlim hg hbm ha hr F hbind
      (hsp _ at_ (.inl (.inr ⟨{ cls := .type "list", data := .seq vs.toArray }, if_pos rfl⟩)))
    · by_cases h1 : b = a
      · exact .inr ⟨h1, hk, _, _, if_pos h1⟩
      · by_cases t : ∃ p ∈ cs, b = p.2
        · exact .inl t
        · exact absurd ((if_neg h1).trans (if_neg t)) z
    · by_cases h1 : b = a
      · subst h1
        have z2 := (if_pos rfl).symm.trans z
        cases z2
        exact ⟨ha, by rw [List.length_map]; exact hl, vs, _, rel, ha⟩
      · have z1 := (if_neg h1).symm.trans z
        by_cases t : ∃ p ∈ cs, b = p.2
        · have z2 := (if_pos t).symm.trans z1
          cases z2
          exact isT b t
        · have z2 := (if_neg t).symm.trans z1
          cases z2
end
/-- what is known of the law at the head's heap -/
def LawG (P : Program) (w : World) (K : PySem.W.Frag) (k n : Nat) (x : Str) (mg : Str → Option Value) (fa : Addr) (h : Heap) : Prop :=
  ∃ (fd : FuncData) (cs : List (Addr × Addr)) (sp : Sp), (∀ p ∈ cs, h.get? p.2 = some tab0) ∧ (∀ p ∈ cs, K.lookup p.2 = none) ∧ (∀ p ∈ cs, PySem.W.CodeHd h p.1 p.2) ∧ (∀ (s : Shared) (u : Value), BindsTo s fd ⟨[u], []⟩ [(x, u)]) ∧
    (∀ (H : Hp) (a : Addr) (ns : List Int), ns.length ≤ n → (∀ p ∈ cs, H p.2 = some (.tbl #[])) → SqL K H a (ns.map V.int) → sp [.ref a] H (fun v _ => v = .bl true) fun _ _ _ => False) ∧
    ∀ base : Heap, K.In base → base.Ns mainGlobals mg → (∀ p ∈ cs, LamX.TabB base mg p.1 p.2) → FnG P w K mg base k fa fd [x] sp
/-- the goal that the head leaves -/
theorem walkT {l : PySem.W.OpenLaw} {n k : Nat} {q : Program} {loose : List Str} {XP : (Str → Option Value) → Heap → Prop} {YP : World → Heap → Prop} {d : DefRec} {x : Str} (hn : l.most = some n) (hn2 : n ≤ sizeLine) (hdf : d.params.defaults = []) (hr : RoomG k callerA)
    (F : ∀ (w : World) (mg : Str → Option Value) (fa : Addr) (h : Heap), YP w h → h.Ns mainGlobals mg → mg d.name = some (.ref fa) → ∃ K : PySem.W.Frag, K.In h ∧ LawG l.prog w K k n x mg fa h) :
    PySem.W.WalkO q loose XP YP l.row.toRowW d [] (fun f vs => PySem.call f vs) := by
  apply Att.attach_callB hn hdf
  intro w s₀ s₁ mg mb fa o pm cd doc a vs ns G Y ho hd hcd hmg hobj hints hlen hbits hg
  obtain ⟨K, KX, fd, cs, sp, c1, c2, c3, hb, hsp, hF⟩ := F w mg fa _ Y G.T.g hmg
  exact law_callT KX G.T.g G.T.b G.T.builtins G.T.nolimit hg G.T.bmain c1 c2 c3 hobj hints (Nat.le_trans hlen hn2) hr hF hb fun H hH sq => hsp H a ns hlen hH sq
end Os
end
section
set_option linter.all false
set_option maxRecDepth 100000
set_option maxHeartbeats 2000000
/-! OwF: the defs and their tables, of the head's facts. -/
namespace Os
open PySem PySem.Spec PyProof.Rows L2
def dd (x : Str) (st : Stmt) : He.DefD := ⟨(x, none), x, x, defArgs st, defBody st, defScope st, [], []⟩
/-- a def that the module knows by another name -/
def ddA (al x : Str) (st : Stmt) : He.DefD := ⟨(al, none), x, x, defArgs st, defBody st, defScope st, [], []⟩
section
variable {K : PySem.W.Frag} {x : Str} {st : Stmt} {f : Addr} {fd : FuncData}
theorem fun_of (F : FunD K x x (defArgs st) (defBody st) (defScope st) [] [] f fd) : Fun K x x st f fd := by
  obtain ⟨⟨oc, od, dV, kV, doc, pm, an, cdv, ct, osl, e1, e2, e3, e4, e5⟩, kp⟩ := F
  rcases e4 with ⟨_, rfl⟩ | ⟨z, _⟩
  · exact ⟨⟨oc, od, kV, doc, pm, an, cdv, ct, osl, e1, e2, e3⟩, kp⟩
  · exact absurd rfl z
theorem fun_dd {fa : List He.Fa} {fn : List He.DefD} (c : He.SaysD fa fn K) (i : Nat) (h : fn[i]? = some (dd x st)) : ∃ fd, Fun K x x st (He.ga K x) fd := by
  obtain ⟨fd, F⟩ := c.def_ i h
  exact ⟨fd, fun_of F⟩
theorem fun_ddA {al : Str} {fa : List He.Fa} {fn : List He.DefD} (c : He.SaysD fa fn K) (i : Nat) (h : fn[i]? = some (ddA al x st)) : ∃ fd, Fun K x x st (He.ga K al) fd := by
  obtain ⟨fd, F⟩ := c.def_ i h
  exact ⟨fd, fun_of F⟩
/-- the tables' names -/
def tabT (K : PySem.W.Frag) (tf : List He.Defn) : List (Addr × Str) := tf.map fun p => ((He.cT K p).2, (p.1 ++ ".<locals>.") ++ "<lambda>")
theorem nodup_same {α β : Type} {g : α → β} : ∀ {l : List α} {a b : α}, (l.map g).Nodup → a ∈ l → b ∈ l → g a = g b → a = b
  | [], _, _, _, h, _, _ => nomatch h
  | y :: l, a, b, nd, ha, hb, e => by
    rw [List.map_cons, List.nodup_cons] at nd
    rcases List.mem_cons.mp ha with h1 | h1
    · rcases List.mem_cons.mp hb with h2 | h2
      · rw [h1, h2]
      · subst h1
        exact absurd (List.mem_map.mpr ⟨b, h2, e.symm⟩) nd.1
    · rcases List.mem_cons.mp hb with h2 | h2
      · subst h2
        exact absurd (List.mem_map.mpr ⟨a, h1, e⟩) nd.1
      · exact nodup_same nd.2 h1 h2 e
theorem lamD_of {tf : List He.Defn} {base : Heap} {mg : Str → Option Value} (nd : (tf.map fun p => (He.cT K p).2).Nodup) (tb : ∀ p ∈ tf.map (He.cT K), LamX.TabB base mg p.1 p.2) (hx : (x, none) ∈ tf) (F : Fun K x x st (He.ga K x) fd) : LamD base mg (tabT K tf) fd.code x := by
  obtain ⟨⟨oc, od, kV, doc, pm, an, cdv, ct, osl, e1, e2, e3⟩, _⟩ := F
  obtain ⟨c, rfl⟩ := He.codeIn_ref e3
  have ec : (He.cT K (x, none)).1 = c := He.codeOf_eq (p := (x, none)) e2 (by rw [e1])
  refine ⟨c, (He.cT K (x, none)).2, by rw [e1], ?_, List.mem_map.mpr ⟨_, hx, rfl⟩, fun p hp e => ?_⟩
  · have t := tb _ (List.mem_map.mpr ⟨_, hx, rfl⟩)
    rw [ec] at t
    exact t
  · obtain ⟨p0, h0, rfl⟩ := List.mem_map.mp hp
    have := nodup_same nd h0 hx e
    rw [this]
theorem tabs_start {tf : List He.Defn} {H : Hp} (h : ∀ p ∈ tf.map (He.cT K), H p.2 = some (.tbl #[])) : LamX.Tabs (tabT K tf) H := fun p hp => by
  obtain ⟨p0, h0, rfl⟩ := List.mem_map.mp hp
  exact LamX.TabS.nil (h _ (List.mem_map.mpr ⟨p0, h0, rfl⟩))
end

def leavesB : List Value → List D → Bool
  | [], [] => true
  | .str x _ :: vs, .str y :: ds => decide (x = y) && leavesB vs ds
  | .int i _ :: vs, .int j :: ds => decide (i = j) && leavesB vs ds
  | _, _ => false
/-- x of the module is a tuple of leaves -/
def tupOkK (K : PySem.W.Frag) (x : Str) (xs : List D) : Bool := match K.lookup (He.ga K x) with
  | some o => decide (o.cls = .type "tuple") && (match o.data with
    | .seq its _ => decide (its.size ≤ sizeLine) && leavesB its.toList xs
    | _ => false)
  | none => false
theorem leavesB_ok : ∀ {us : List Value} {xs : List D}, leavesB us xs = true → ∃ vs, L2.Vals vs us ∧ Leaves vs xs
  | [], [], _ => ⟨[], .nil, .nil⟩
  | .str x t :: us, .str y :: ds, h => by
    rw [leavesB, Bool.and_eq_true] at h
    obtain ⟨vs, h1, h2⟩ := leavesB_ok h.2
    exact ⟨.str x :: vs, .cons ⟨t, rfl⟩ h1, .cons (show x = y from of_decide_eq_true h.1) h2⟩
  | .int i t :: us, .int j :: ds, h => by
    rw [leavesB, Bool.and_eq_true] at h
    obtain ⟨vs, h1, h2⟩ := leavesB_ok h.2
    exact ⟨.int i :: vs, .cons ⟨t, rfl⟩ h1, .cons (show i = j from of_decide_eq_true h.1) h2⟩
theorem tupOk_gl {K : PySem.W.Frag} {x : Str} {xs : List D} (h : tupOkK K x xs = true) : glT K (.ref (He.ga K x)) (.tuple xs) := by
  unfold tupOkK at h
  split at h
  · rename_i o ho
    rw [Bool.and_eq_true] at h
    obtain ⟨h1, h2⟩ := h
    split at h2
    · rename_i its n hd
      rw [Bool.and_eq_true] at h2
      obtain ⟨vs, hv, hl⟩ := leavesB_ok h2.2
      exact ⟨_, xs, vs, rfl, rfl, hl, fun H => .inr ⟨o, its, n, ho, of_decide_eq_true h1, hd, of_decide_eq_true h2.1, hv⟩⟩
    · cases h2
  · cases h
end Os
end
section
set_option linter.all false
set_option maxRecDepth 100000
set_option maxHeartbeats 4000000
/-! OwG: steps of the small language, one by one: for every law. -/
namespace Os
open PySem PySem.Spec PyProof.Rows L2 PySem.W
section
theorem str_dec {x y : Str} : (x == y) = decide (x = y) := by
  by_cases h : x = y
  · subst h
    simp
  · rw [decide_eq_false h]
    exact beq_eq_false_iff_ne.mpr h
theorem int_dec {x y : Int} : (x == y) = decide (x = y) := by
  by_cases h : x = y
  · subst h
    simp
  · rw [decide_eq_false h]
    exact beq_eq_false_iff_ne.mpr h
theorem tup_cons {x y : D} (h : alike x y = true) (xs ys : List D) : dataLt (.tuple (x :: xs)) (.tuple (y :: ys)) = if PyData.eqv x y = true then dataLt (.tuple xs) (.tuple ys) else dataLt x y := by
  rw [dataLt_tuple, dataLt_cons h, dataLt_tuple]
theorem tup_nil : dataLt (.tuple []) (.tuple []) = false := by
  rw [dataLt_tuple]
  exact lex_irrefl _
theorem t_int {a b : Int} {l m : List D} : dataLt (.tuple (.int a :: l)) (.tuple (.int b :: m)) = if a = b then dataLt (.tuple l) (.tuple m) else decide (a < b) := by
  rw [tup_cons (x := .int a) (y := .int b) (by simp [alike]), dataLt_int]
  by_cases c : a = b
  · rw [if_pos (by simpa [PyData.eqv] using c), if_pos c]
  · rw [if_neg (by simpa [PyData.eqv] using c), if_neg c]
theorem t_str {a b : Str} {l m : List D} : dataLt (.tuple (.str a :: l)) (.tuple (.str b :: m)) = if a = b then dataLt (.tuple l) (.tuple m) else decide (a.cps.toList < b.cps.toList) := by
  rw [tup_cons (x := .str a) (y := .str b) (by simp [alike]), dataLt_str]
  by_cases c : a = b
  · rw [if_pos (by simpa [PyData.eqv, str_dec] using c), if_pos c]
  · rw [if_neg (by simpa [PyData.eqv, str_dec] using c), if_neg c]
theorem dataLt_self' (d : D) : dataLt d d = false := lex_irrefl _
end
section
def leD {α : Type} (f : α → D) (a b : α) : Bool := !dataLt (f b) (f a)
theorem leD_trans {α : Type} (f : α → D) (a b c : α) (h1 : leD f a b = true) (h2 : leD f b c = true) : leD f a c = true := by
  unfold leD at *
  simp only [Bool.not_eq_true'] at *
  cases e : dataLt (f c) (f a) with
  | false => rfl
  | true =>
    rcases lex_negTrans _ (keyToks (f b)) _ e with z | z
    · rw [show dataLt (f c) (f b) = true from z] at h2
      cases h2
    · rw [show dataLt (f b) (f a) = true from z] at h1
      cases h1
theorem leD_total {α : Type} (f : α → D) (a b : α) : (leD f a b || leD f b a) = true := by
  unfold leD
  cases e : dataLt (f b) (f a) with
  | false => rfl
  | true =>
    cases e2 : dataLt (f a) (f b) with
    | false => rfl
    | true =>
      have z : dataLt (f a) (f a) = true := lex_trans _ _ _ e2 e
      rw [dataLt_self'] at z
      cases z
end
section
theorem map_len {α β : Type} {f : α → β} {l : List α} {n : Nat} (h : l.length ≤ n) : (l.map f).length ≤ n := by rw [List.length_map]; exact h
theorem ev_call {Φ : List FE} {f : Nat} {ms : MAs} {ρ : LS} {s s1 s2 : S1} {as : List SL} {F : FE} {d : D} (h1 : eva Φ ms ρ s = some (as, s1)) (hf : Φ[f]? = some F) (hl : as.length = F.ar) (h2 : F.sem as s1 = some (d, s2)) : ev Φ (.call f ms) ρ s = some (d, s2) := by
  rw [ev, h1]
  simp only [Option.bind, hf, hl, if_true, h2]
theorem ev_b1 {Φ : List FE} {f : B1} {a : ME} {ρ : LS} {s s1 : S1} {x z : D} (h : ev Φ a ρ s = some (x, s1)) (hz : dB1 f x = some z) : ev Φ (.b1 f a) ρ s = some (z, s1) := by
  rw [ev, h]
  simp only [Option.bind, hz, Option.map]
theorem ev_idx {Φ : List FE} {a i : ME} {ρ : LS} {s s1 s2 : S1} {x y z : D} (h : ev Φ a ρ s = some (x, s1)) (h2 : ev Φ i ρ s1 = some (y, s2)) (hz : dIdx x y = some z) : ev Φ (.idx a i) ρ s = some (z, s2) := by
  rw [ev, h]
  simp only [Option.bind, h2, hz, Option.map]
theorem ev_op {Φ : List FE} {o : O2} {a i : ME} {ρ : LS} {s s1 s2 : S1} {x y z : D} (h : ev Φ a ρ s = some (x, s1)) (h2 : ev Φ i ρ s1 = some (y, s2)) (hz : dOp o x y = some z) : ev Φ (.op o a i) ρ s = some (z, s2) := by
  rw [ev, h]
  simp only [Option.bind, h2, hz, Option.map]
theorem ev_cmp {Φ : List FE} {o : CO} {a i : ME} {ρ : LS} {s s1 s2 : S1} {x y : D} {z : Bool} (h : ev Φ a ρ s = some (x, s1)) (h2 : ev Φ i ρ s1 = some (y, s2)) (hz : dCmp o x y = some z) : ev Φ (.cmp o a i) ρ s = some (.bool z, s2) := by
  rw [ev, h]
  simp only [Option.bind, h2, hz, Option.map]
theorem evs_cons {Φ : List FE} {e : ME} {r : MEs} {ρ : LS} {s s1 s2 : S1} {x : D} {xs : List D} (h : ev Φ e ρ s = some (x, s1)) (h2 : evs Φ r ρ s1 = some (xs, s2)) : evs Φ (.cons e r) ρ s = some (x :: xs, s2) := by
  rw [evs, h]
  simp only [Option.bind, h2, Option.map]
theorem evs_nil {Φ : List FE} {ρ : LS} {s : S1} : evs Φ .nil ρ s = some ([], s) := by rw [evs]
theorem ev_tup {Φ : List FE} {es : MEs} {ρ : LS} {s s1 : S1} {xs : List D} (h : evs Φ es ρ s = some (xs, s1)) (hz : xs.length ≤ sizeLine) : ev Φ (.tup es) ρ s = some (.tuple xs, s1) := by
  rw [ev, h]
  simp only [Option.bind, hz, if_true]
theorem eva_cons {Φ : List FE} {e : ME} {r : MAs} {ρ : LS} {s s1 s2 : S1} {x : D} {xs : List SL} (h : ev Φ e ρ s = some (x, s1)) (h2 : eva Φ r ρ s1 = some (xs, s2)) : eva Φ (.cons e r) ρ s = some (.d x :: xs, s2) := by
  rw [eva, h]
  simp only [Option.bind, h2, Option.map]
theorem eva_nil {Φ : List FE} {ρ : LS} {s : S1} : eva Φ .nil ρ s = some ([], s) := by rw [eva]
theorem atI_nat {α : Type} (xs : List α) (n : Nat) : L2.atI xs (n : Int) = xs[n]? := by
  unfold L2.atI L2.ixN
  rw [if_pos (Int.natCast_nonneg n)]
  by_cases h : n < xs.length
  · rw [if_pos (by omega)]
    simp
  · rw [if_neg (by omega)]
    simp at h
    simp [h]
end
section
theorem mul_small {a b : Int} (h : a.natAbs ≤ 1) : dOp .mul (.int a) (.int b) = some (.int (a * b)) := by
  show (if _ then _ else _) = _
  rw [if_pos]
  left
  omega
end
section
theorem ev_sortL {Φ : List FE} {a m : ME} {js : List Nat} {ρ : LS} {s s1 : S1} {x : D} {xs ks ys : List D} (h : ev Φ a ρ s = some (x, s1)) (hw : walkOf x = some xs) (hk : keysRun (fun y => ev (pureL Φ) m (.d y :: js.map (capt ρ)) none) xs = some ks) (hs : dSortBy xs ks = some ys) : ev Φ (.sortL a js m) ρ s = some (.list ys, s1) := by
  rw [ev, h]
  simp only [Option.bind, hw, hk, hs, Option.map]
end
section
theorem ev_sortK {Φ : List FE} {a : ME} {f : Nat} {ρ : LS} {s s1 : S1} {x : D} {xs ks ys : List D} {F : FE} (h : ev Φ a ρ s = some (x, s1)) (hw : walkOf x = some xs) (hf : (pureL Φ)[f]? = some F) (ha : F.ar = 1) (hk : keysRun (fun y => F.sem [.d y] none) xs = some ks) (hs : dSortBy xs ks = some ys) : ev Φ (.sortK f a) ρ s = some (.list ys, s1) := by
  rw [ev, h]
  simp only [Option.bind, hw, hf, ha, if_true, hk, hs, Option.map]
end
section
theorem and_bool {Φ : List FE} {a b : ME} {ρ : LS} {s : S1} {x y : Bool} (h : ev Φ a ρ s = some (.bool x, s)) (h2 : ev Φ b ρ s = some (.bool y, s)) : ev Φ (.and_ a b) ρ s = some (.bool (x && y), s) := by
  rw [ev, h]
  cases x <;> simp [tru, h2]
end
section
theorem ixN_nat {n p : Nat} (h : p < n) : L2.ixN n (p : Int) = some p := by
  unfold L2.ixN
  simp [h]
end
section
variable {Φ : List FE} {p o i : Nat} {ρ : LS}
theorem big_lt {n : Int} (h : n < 1000000000000000) : n < 1606938044258990275541962092341162602522202993782792835301376 := by omega
theorem pick_eq {n : Int} (h : n < 1606938044258990275541962092341162602522202993782792835301376) (S : Src) : pickF.sem [.src, .d (.int n)] (some S) = some (.int (pickS n S).1, some (pickS n S).2) := by
  show (if _ then _ else _) = _
  rw [if_pos h]
theorem order_eq {xs : List D} (h : xs.length ≤ sizeLine) (S : Src) : orderF.sem [.src, .d (.list xs)] (some S) = some (.list (orderS xs.length xs S).1, some (orderS xs.length xs S).2) := by
  show (if _ then _ else _) = _
  rw [if_pos h]
/-- a drawn number -/
theorem ev_pick (hp : Φ[p]? = some pickF) {e : ME} {n : Nat} {S S1 : Src} (hi : ρ[i]? = some .src) (he : ev Φ e ρ (some S) = some (.int (n : Nat), some S1)) (h0 : 1 ≤ n) (hn : n < 1000000000000000) :
    ∃ k : Nat, ∃ S', k < n ∧ ev Φ (.call p (.src i (.cons e .nil))) ρ (some S) = some (.int (k : Nat), some S') := by
  have hr := pickS_range (m := (n : Int)) (S := S1) (by omega)
  obtain ⟨k, hk⟩ := Int.eq_ofNat_of_zero_le hr.1
  refine ⟨k, (pickS n S1).2, by omega, ?_⟩
  have ha : eva Φ (.src i (.cons e .nil)) ρ (some S) = some ([.src, .d (.int (n : Nat))], some S1) := by
    rw [eva, hi]
    simp only [eva_cons he eva_nil, Option.map]
  have hq := pick_eq (n := (n : Int)) (big_lt (by omega)) S1
  rw [hk] at hq
  exact ev_call ha hp rfl hq
theorem ev_order (ho : Φ[o]? = some orderF) {e : ME} {xs : List D} {S S1 : Src} (hi : ρ[i]? = some .src) (he : ev Φ e ρ (some S) = some (.list xs, some S1)) (hl : xs.length ≤ sizeLine) :
    ev Φ (.call o (.src i (.cons e .nil))) ρ (some S) = some (.list (orderS xs.length xs S1).1, some (orderS xs.length xs S1).2) := by
  have ha : eva Φ (.src i (.cons e .nil)) ρ (some S) = some ([.src, .d (.list xs)], some S1) := by
    rw [eva, hi]
    simp only [eva_cons he eva_nil, Option.map]
  exact ev_call ha ho rfl (order_eq hl S1)
theorem ev_slc_to {a e : ME} {s s1 s2 : S1} {x z : D} {j : Int} (h : ev Φ a ρ s = some (x, s1)) (h2 : ev Φ e ρ s1 = some (.int j, s2)) (hz : dSlc x none (some j) = some z) : ev Φ (.slc a .no (.yes e)) ρ s = some (z, s2) := by
  rw [ev, h, Option.bind_some]
  have h3 : evo Φ (.yes e) ρ s1 = some (some j, s2) := by
    rw [evo, h2]
    rfl
  have h4 : evo Φ .no ρ s1 = some (none, s1) := by rw [evo]
  simp only [h4, Option.bind_some, h3, hz, Option.map]
end
section
variable {Φ : List FE} {ρ : LSS} {s s1 : S1} {i j : Nat} {x y : D}
theorem ev_nm {ρ : LS} (h : ρ[i]? = some (.d x)) : ev Φ (.nm i) ρ s = some (x, s) := by rw [ev, h]
theorem ev_k {ρ : LS} : ev Φ (.k x) ρ s = some (x, s) := by rw [ev]
theorem look_f (h : ρ[i]? = some (.frz x)) : (ρ.map SS.f)[i]? = some (.d x) := by
  rw [List.getElem?_map, h]
  rfl
theorem look_r (h : ρ[i]? = some (.frz x)) : (ρ.map SS.r)[i]? = some (.d x) := by
  rw [List.getElem?_map, h]
  rfl
theorem look_sf (h : ρ[i]? = some .src) : (ρ.map SS.f)[i]? = some .src := by
  rw [List.getElem?_map, h]
  rfl
theorem look_sr (h : ρ[i]? = some .src) : (ρ.map SS.r)[i]? = some .src := by
  rw [List.getElem?_map, h]
  rfl
theorem setne {α : Type} {l : List α} {a : α} {o : Option α} (hij : i ≠ j) (h : l[j]? = o) : (l.set i a)[j]? = o := by rw [List.getElem?_set_ne hij, h]
theorem seteq {α : Type} {l : List α} {a : α} (h : i < l.length) : (l.set i a)[i]? = some a := List.getElem?_set_self h
theorem wipe1 {ρ : LS} {o : Option SL} (hij : i ≠ j) (h : ρ[j]? = o) : (wipeS ρ [i])[j]? = o := setne hij h
end
/-- a comprehension over data, with a test -/
theorem compRun_fil {α : Type} {ft : LS → S1 → Option (Bool × S1)} {fe : LS → S1 → Option (D × S1)} {t : MT} {ρ : LS} {s : S1} (f0 : α → D) (p : α → Bool) (g : α → D) : ∀ {xs : List α}, (∀ x ∈ xs, ∃ ρ1, bindT t (f0 x) ρ = some ρ1 ∧ ft ρ1 s = some (p x, s) ∧ (p x = true → fe ρ1 s = some (g x, s))) →
    compRun ft fe t ρ (xs.map f0) s = some ((xs.filter p).map g, s)
  | [], _ => rfl
  | x :: xs, h => by
    obtain ⟨ρ1, h1, h2, h3⟩ := h x List.mem_cons_self
    have ih := compRun_fil f0 p g (xs := xs) fun y hy => h y (List.mem_cons_of_mem _ hy)
    rw [List.map_cons, compRun, h1]
    simp only [Option.bind, h2]
    cases hp : p x with
    | true =>
      simp only [h3 hp, ih, if_true, Option.map]
      rw [List.filter_cons_of_pos hp, List.map_cons]
    | false =>
      simp only [ih, Bool.false_eq_true, if_false]
      rw [List.filter_cons_of_neg (by simp [hp])]
theorem compRun_all {α : Type} {ft : LS → S1 → Option (Bool × S1)} {fe : LS → S1 → Option (D × S1)} {t : MT} {ρ : LS} {s : S1} (f0 g : α → D) {xs : List α} (h : ∀ x ∈ xs, ∃ ρ1, bindT t (f0 x) ρ = some ρ1 ∧ ft ρ1 s = some (true, s) ∧ fe ρ1 s = some (g x, s)) : compRun ft fe t ρ (xs.map f0) s = some (xs.map g, s) := by
  rw [compRun_fil f0 (fun _ => true) g fun x hx => let ⟨ρ1, h1, h2, h3⟩ := h x hx; ⟨ρ1, h1, h2, fun _ => h3⟩, List.filter_eq_self.mpr fun _ _ => rfl]
/-- a comprehension that draws -/
theorem compRun_draw {α : Type} {ft : LS → S1 → Option (Bool × S1)} {fe : LS → S1 → Option (D × S1)} {t : MT} {ρ : LS} (f : α → D) (P : α → Prop) : ∀ {xs : List D} {S : Src}, (∀ x ∈ xs, ∀ S, ∃ ρ1, bindT t x ρ = some ρ1 ∧ ft ρ1 (some S) = some (true, some S) ∧ ∃ a S', P a ∧ fe ρ1 (some S) = some (f a, some S')) →
    ∃ (as : List α) (S' : Src), as.length = xs.length ∧ (∀ a ∈ as, P a) ∧ compRun ft fe t ρ xs (some S) = some (as.map f, some S')
  | [], S, _ => ⟨[], S, rfl, fun _ h => absurd h List.not_mem_nil, rfl⟩
  | x :: xs, S, h => by
    obtain ⟨ρ1, h1, h2, a, S1, hp, h3⟩ := h x List.mem_cons_self S
    obtain ⟨as, S', e1, e2, e3⟩ := compRun_draw f P (xs := xs) (S := S1) fun y hy => h y (List.mem_cons_of_mem _ hy)
    refine ⟨a :: as, S', by simp [e1], fun b hb => ?_, ?_⟩
    · rcases List.mem_cons.mp hb with rfl | hb
      · exact hp
      · exact e2 b hb
    · rw [compRun, h1]
      simp only [Option.bind, h2, if_true, h3, e3, Option.map, List.map_cons]
section
theorem perm_inv {α β : Type} {f : α → β} {l m : List β} (h : l.Perm m) : ∀ ts : List α, ts.map f = m → ∃ ts' : List α, ts'.Perm ts ∧ ts'.map f = l := by
  induction h with
  | nil => exact fun ts e => ⟨ts, .refl _, e⟩
  | cons x _ ih =>
    intro ts e
    cases ts with
    | nil => cases e
    | cons t ts =>
      rw [List.map_cons] at e
      injection e with e1 e2
      obtain ⟨ts', p, q⟩ := ih ts e2
      exact ⟨t :: ts', p.cons t, by rw [List.map_cons, q, e1]⟩
  | swap x y l =>
    intro ts e
    match ts, e with
    | [], e => cases e
    | [_], e => cases e
    | a :: b :: ts, e =>
      simp only [List.map_cons, List.cons.injEq] at e
      obtain ⟨rfl, rfl, rfl⟩ := e
      exact ⟨b :: a :: ts, .swap _ _ _, rfl⟩
  | trans _ _ i1 i2 =>
    intro ts e
    obtain ⟨t2, p2, q2⟩ := i2 ts e
    obtain ⟨t1, p1, q1⟩ := i1 t2 q2
    exact ⟨t1, p1.trans p2, q1⟩
theorem ne_str {x : Str} : dCmp .ne (.str x) (.str x) = some false := by
  show (some (decide (x = x))).map _ = _
  rw [decide_eq_true rfl]
  rfl
end
section
theorem and_boolS {Φ : List FE} {a b : ME} {ρ : LS} {s s1 : S1} {x y : Bool} (h : ev Φ a ρ s = some (.bool x, s1)) (h2 : ev Φ b ρ s1 = some (.bool y, s1)) : ev Φ (.and_ a b) ρ s = some (.bool (x && y), s1) := by
  rw [ev, h]
  cases x
  · rfl
  · exact h2
def enumF : Nat → List D → List D
  | _, [] => []
  | k, x :: xs => .tuple [.int (k : Nat), x] :: enumF (k + 1) xs
theorem enum_from : ∀ (xs : List D) (k : Nat), (List.range' k xs.length).zipWith (fun i x => PyData.tuple [.int (i : Nat), x]) xs = enumF k xs
  | [], _ => rfl
  | x :: xs, k => by
    rw [List.length_cons, List.range'_succ, List.zipWith_cons_cons, enum_from xs (k + 1)]
    rfl
theorem enum_eq (xs : List D) : enumD xs = enumF 0 xs := by
  unfold enumD
  rw [List.range_eq_range']
  exact enum_from xs 0
end
section
theorem ne_same {d : D} {k n : Nat} (h : Tm k n d) (hk : k ≤ 64) : dCmp .ne d d = some false := by
  show (dEq d d).map _ = _
  unfold dEq
  split
  · simp
  · simp
  · exact absurd h.ok (by simp [okD])
  · rw [if_pos ⟨h.shaped hk, h.shaped hk⟩, h.eqv]
    rfl
end
section
theorem mul_64 {a b : Int} (h : -(2 ^ 64) < a ∧ a < 2 ^ 64) : dOp .mul (.int a) (.int b) = some (.int (a * b)) := by
  show (if _ then _ else _) = _
  rw [if_pos]
  exact .inl h
theorem mod_pos {a b : Int} (h : 0 < b) : dOp .mod (.int a) (.int b) = some (.int (a % b)) := by
  show (if 0 < b then _ else _) = _
  rw [if_pos h]
end
section
theorem run_app {Φ : List FE} {i : Nat} {md : Mode} {e : ME} {ρ : LSS} {s s1 : S1} {d : D} {xs : List D} (h : ev Φ e (vw md ρ) s = some (d, s1)) (h2 : slotOf Φ md e d = some (.frz d)) (hi : ρ[i]? = some (.own (.list xs))) (hl : xs.length < sizeLine) : run Φ (.app i md e) ρ s = some (.nx (ρ.set i (.own (.list (xs ++ [d])))) s1) := by
  rw [run, hi]
  simp only [evM, h, Option.bind_some, h2, Option.map_some, hl, if_true]
end
section
variable {α : Type}
theorem parts_ins (f : α → Nat) (x : α) (g : Nat → List α) : ∀ π : List Nat, π.Nodup → f x ∈ π → ((π.map fun n => if f x == n then x :: g n else g n).flatten).Perm (x :: (π.map g).flatten)
  | [], _, h => absurd h List.not_mem_nil
  | k :: π, nd, h => by
    rw [List.map_cons, List.map_cons, List.flatten_cons, List.flatten_cons]
    obtain ⟨hk, nd'⟩ := List.nodup_cons.mp nd
    by_cases e : f x = k
    · have h2 : π.map (fun n => if f x == n then x :: g n else g n) = π.map g := List.map_congr_left fun n hn => by
        rw [if_neg]
        intro z
        exact hk (by rw [← e, beq_iff_eq.mp z]; exact hn)
      rw [h2, if_pos (by simpa using e)]
      exact .refl _
    · have ih := parts_ins f x g π nd' ((List.mem_cons.mp h).resolve_left e)
      rw [if_neg (by simpa using e)]
      exact (ih.append_left (g k)).trans List.perm_middle
theorem parts_perm (f : α → Nat) {π : List Nat} (nd : π.Nodup) : ∀ C : List α, (∀ x ∈ C, f x ∈ π) → ((π.map fun n => C.filter fun x => f x == n).flatten).Perm C
  | [], _ => by
    have : ∀ π : List Nat, (π.map fun n => ([] : List α).filter fun x => f x == n).flatten = [] := fun π => by
      induction π with
      | nil => rfl
      | cons k π ih => rw [List.map_cons, List.flatten_cons, ih]; rfl
    rw [this]
  | x :: C, h => by
    have ih := parts_perm f nd C fun y hy => h y (List.mem_cons_of_mem _ hy)
    have e : (π.map fun n => (x :: C).filter fun y => f y == n) = π.map fun n => if f x == n then x :: (C.filter fun y => f y == n) else C.filter fun y => f y == n := List.map_congr_left fun n _ => by rw [List.filter_cons]
    rw [e]
    exact (parts_ins f x (fun n => C.filter fun y => f y == n) π nd (h x List.mem_cons_self)).trans (ih.cons x)
end
section
theorem ev_m2 {Φ : List FE} {f : M2} {o a b : ME} {ρ : LS} {s s1 s2 s3 : S1} {x y w z : D} (h : ev Φ o ρ s = some (x, s1)) (h2 : ev Φ a ρ s1 = some (y, s2)) (h3 : ev Φ b ρ s2 = some (w, s3)) (hz : dM2 f x y w = some z) : ev Φ (.m2 f o a b) ρ s = some (z, s3) := by
  rw [ev, h]
  simp only [Option.bind_some, h2, h3, hz, Option.map_some]
end
section
theorem range_int (m : Nat) : rangeD 0 m = (List.range' 0 m).map fun i => PyData.int (i : Nat) := by
  unfold rangeD
  rw [List.range_eq_range']
  exact List.map_congr_left fun n _ => by rw [Int.zero_add]
theorem run_unpL {Φ : List FE} {i j : Nat} {md : Mode} {k e : ME} {ρ : LSS} {s s1 s2 : S1} {p q : D} {xs : List D} {c : Int} {n : Nat} (h : ev Φ e (vw md ρ) s = some (.tuple [p, q], s1)) (hs : slotOf Φ md e (.tuple [p, q]) = some (.frz (.tuple [p, q]))) (hk : ev Φ k (ρ.map SS.r) s1 = some (.int c, s2)) (hi : ρ[i]? = some (.own (.list xs))) (hn : ixN xs.length c = some n) (hj : j < ρ.length ∧ i ≠ j) :
    run Φ (.unpL i j md k e) ρ s = some (.nx ((ρ.set i (.own (.list (xs.set n p)))).set j (.frz q)) s2) := by
  rw [run]
  simp only [evM, h, Option.bind_some, hs, Option.map_some, hk, hi, hn]
  rw [if_pos hj]
end
section
def MSs.at : MSs → Nat → MS
  | .cons m _, 0 => m
  | .cons _ r, n + 1 => r.at n
  | .nil, _ => .pass
theorem comp2 {Φ : List FE} {ρ : LS} {it : MI} {elt : ME} {v : Nat} {x y a b : D} {s s1 s2 s3 : S1} (hi : v < ρ.length) (hit : evi Φ it ρ s = some ([x, y], s1)) (ha : ev Φ elt ((wipeS ρ [v]).set v (.d x)) s1 = some (a, s2)) (hb : ev Φ elt ((wipeS ρ [v]).set v (.d y)) s2 = some (b, s3)) :
    ev Φ (.comp elt (.nm v) it .nil [v]) ρ s = some (.list [a, b], s3) := by
  have hw : (wipeS ρ [v]).length = ρ.length := wipeS_length ρ [v]
  refine ev_comp hit (ys := [a, b]) ?_ (by show 2 ≤ sizeLine; decide)
  rw [compRun, bindT, if_pos (by rw [hw]; exact hi)]
  simp only [Option.bind_some, evt, if_true, ha]
  rw [compRun, bindT, if_pos (by rw [hw]; exact hi)]
  simp only [Option.bind_some, evt, if_true, hb]
  rfl
end
section
theorem evM_of {Φ : List FE} {md : Mode} {e : ME} {ρ : LSS} {s s1 : S1} {d : D} {y : SS} (h : ev Φ e (vw md ρ) s = some (d, s1)) (h2 : slotOf Φ md e d = some y) : evM Φ md e ρ s = some (y, s1) := by
  unfold evM
  rw [h, Option.bind_some]
  dsimp only
  rw [h2]
  rfl
theorem evP_nil {Φ : List FE} {ρ : LSS} {s : S1} : evP Φ [] .nil ρ s = some ([], s) := rfl
theorem evP_cons {Φ : List FE} {md : Mode} {mds : List Mode} {e : ME} {r : MEs} {ρ : LSS} {s s1 s2 : S1} {x : SS} {xs : List SS} (h : evM Φ md e ρ s = some (x, s1)) (h2 : evP Φ mds r ρ s1 = some (xs, s2)) : evP Φ (md :: mds) (.cons e r) ρ s = some (x :: xs, s2) := by
  rw [evP, h, Option.bind_some]
  dsimp only
  rw [h2]
  rfl
end
section
theorem ev_or_f {Φ : List FE} {a b : ME} {ρ : LS} {s s1 s2 : S1} {y : D} (h : ev Φ a ρ s = some (.bool false, s1)) (h2 : ev Φ b ρ s1 = some (y, s2)) : ev Φ (.or_ a b) ρ s = some (y, s2) := by
  rw [ev, h]
  exact h2
theorem run_unp2 {Φ : List FE} {i j : Nat} {e : ME} {ρ : LSS} {s s1 : S1} {p q : D} (h : ev Φ e (vw .f ρ) s = some (.tuple [p, q], s1)) (hi : i < ρ.length) (hj : j < ρ.length) : run Φ (.unp (.two (.nm i) (.nm j)) .f e) ρ s = some (.nx ((ρ.set i (.frz p)).set j (.frz q)) s1) := by
  rw [run, evM_of h rfl, Option.bind_some]
  show (bindS (.two (.nm i) (.nm j)) (.tuple [p, q]) ρ).map _ = _
  simp [bindS, hi, hj]
theorem ne_int {g : Int} : dCmp .ne (.int g) (.int g) = some false := by
  show (some (decide (g = g))).map _ = _
  rw [decide_eq_true rfl]
  rfl
end
section
theorem run_lput {Φ : List FE} {i : Nat} {md : Mode} {k v : ME} {ρ : LSS} {s s1 s2 : S1} {d : D} {xs : List D} {c : Int} {n : Nat} (hv : ev Φ v (vw md ρ) s = some (d, s1)) (hs : slotOf Φ md v d = some (.frz d)) (hk : ev Φ k (ρ.map SS.r) s1 = some (.int c, s2)) (hi : ρ[i]? = some (.own (.list xs))) (hn : ixN xs.length c = some n) :
    run Φ (.lput i md k v) ρ s = some (.nx (ρ.set i (.own (.list (xs.set n d)))) s2) := by
  rw [run, evM_of hv hs]
  simp only [Option.bind_some, hk, hi, hn, Option.map_some]
theorem ev_catL {Φ : List FE} {a b : ME} {ρ : LS} {s s1 s2 : S1} {xs ys : List D} (h : ev Φ a ρ s = some (.list xs, s1)) (h2 : ev Φ b ρ s1 = some (.list ys, s2)) (hl : xs.length + ys.length ≤ sizeLine) : ev Φ (.catL a b) ρ s = some (.list (xs ++ ys), s2) := by
  rw [ev, h]
  simp only [Option.bind_some, h2, if_pos hl]
end
section
variable {ρ : LSS}
theorem look_rs {i : Nat} {x : D} (h : ρ[i]? = some (.own x)) : (ρ.map SS.r)[i]? = some (.d x) := by
  rw [List.getElem?_map, h]
  rfl
end
section
theorem eq_same {d : D} {k n : Nat} (h : Tm k n d) (hk : k ≤ 64) : dCmp .eq d d = some true := by
  show dEq d d = _
  unfold dEq
  split
  · simp
  · simp
  · exact absurd h.ok (by simp [okD])
  · rw [if_pos ⟨h.shaped hk, h.shaped hk⟩, h.eqv]
theorem fdiv_pos {a b : Int} (h : 0 < b ∧ b < 1606938044258990275541962092341162602522202993782792835301376) : dOp .fdiv (.int a) (.int b) = some (.int (a / b)) := by
  show (if _ then _ else _) = _
  rw [if_pos h]
end
section
theorem comp2T {Φ : List FE} {ρ ρ1 ρ2 : LS} {it : MI} {elt : ME} {t : MT} {own : List Nat} {x y a b : D} {s s1 s2 s3 : S1} (hit : evi Φ it ρ s = some ([x, y], s1)) (b1 : bindT t x (wipeS ρ own) = some ρ1) (b2 : bindT t y (wipeS ρ own) = some ρ2) (ha : ev Φ elt ρ1 s1 = some (a, s2)) (hb : ev Φ elt ρ2 s2 = some (b, s3)) :
    ev Φ (.comp elt t it .nil own) ρ s = some (.list [a, b], s3) := by
  refine ev_comp hit (ys := [a, b]) ?_ (by show 2 ≤ sizeLine; decide)
  rw [compRun, b1]
  simp only [Option.bind_some, evt, if_true, ha]
  rw [compRun, b2]
  simp only [Option.bind_some, evt, if_true, hb]
  rfl
end
section
variable {α : Type}
theorem keysRun_map {F : D → Option (D × S1)} {g f : α → D} {s : S1} : ∀ {l : List α}, (∀ r ∈ l, F (g r) = some (f r, s)) → keysRun F (l.map g) = some (l.map f)
  | [], _ => rfl
  | r :: l, h => by
    rw [List.map_cons, keysRun, h r List.mem_cons_self, Option.bind_some, keysRun_map fun q hq => h q (List.mem_cons_of_mem _ hq)]
    rfl
theorem zip_maps {g f : α → D} : ∀ l : List α, (l.map g).zip (l.map f) = l.map fun r => (g r, f r)
  | [] => rfl
  | r :: l => by
    rw [List.map_cons, List.map_cons, List.zip_cons_cons, zip_maps l]
    rfl
theorem sortBy_gen {f g : α → D} {l : List α} (hal : ∀ a ∈ l, ∀ b ∈ l, alike (f a) (f b) = true) (ht : ∀ a, ∃ x xs, f a = .tuple (x :: xs)) (hd : ∀ a, (f a).depth ≤ 60) (hl : l.length ≤ sizeLine) : dSortBy (l.map g) (l.map f) = some ((l.mergeSort (leD f)).map g) := by
  have h1 : alikeL (l.map f) = true := by
    unfold alikeL
    rw [Bool.and_eq_true, Bool.and_eq_true, Bool.or_eq_true]
    refine ⟨⟨?_, .inl ?_⟩, ?_⟩
    · rw [List.all_eq_true]
      intro x hx
      rw [List.all_eq_true]
      intro y hy
      obtain ⟨a, ha, rfl⟩ := List.mem_map.mp hx
      obtain ⟨b, hb, rfl⟩ := List.mem_map.mp hy
      exact hal a ha b hb
    · rw [List.all_eq_true]
      intro x hx
      obtain ⟨a, ha, rfl⟩ := List.mem_map.mp hx
      obtain ⟨y, ys, e⟩ := ht a
      rw [e]
    · rw [List.all_eq_true]
      intro x hx
      obtain ⟨a, ha, rfl⟩ := List.mem_map.mp hx
      exact decide_eq_true (hd a)
  unfold dSortBy
  rw [if_pos ⟨.inl h1, by rw [List.length_map]; exact hl, by rw [List.length_map, List.length_map]⟩, zip_maps]
  have e := List.map_mergeSort (r := leD f) (s := dataLe false Prod.snd) (f := fun r => (g r, f r)) (l := l) fun a _ b _ => rfl
  rw [← e, List.map_map]
  rfl
end
section
variable {α : Type}
theorem sort_uniq {f : α → D} {l m : List α} (tri : ∀ a ∈ l, ∀ b ∈ l, dataLt (f a) (f b) = false → dataLt (f b) (f a) = false → a = b) (p : l.Perm m) (hm : m.Pairwise fun a b => leD f a b = true) : l.mergeSort (leD f) = m := by
  have s1 := List.pairwise_mergeSort (leD_trans f) (leD_total f) l
  refine List.Perm.eq_of_pairwise (le := fun a b => leD f a b = true) (fun a b ha hb h1 h2 => ?_) s1 hm ((List.mergeSort_perm l _).trans p)
  have ha' : a ∈ l := (List.mergeSort_perm l _).mem_iff.mp ha
  have hb' : b ∈ l := p.mem_iff.mpr hb
  unfold leD at h1 h2
  simp only [Bool.not_eq_true'] at h1 h2
  exact tri a ha' b hb' h2 h1
end
end Os
end
section
set_option linter.all false
set_option maxRecDepth 100000
set_option maxHeartbeats 4000000
/-! OwH: steps and fine data, of no law. -/
namespace Os
open PySem PySem.Spec PyProof.Rows L2 PySem.W
/-! ### steps -/
theorem and_sc {Φ : List FE} {a b : ME} {ρ : LS} {s : S1} {x y : Bool} (h : ev Φ a ρ s = some (.bool x, s)) (h2 : x = true → ev Φ b ρ s = some (.bool y, s)) : ev Φ (.and_ a b) ρ s = some (.bool (x && y), s) := by
  rw [ev, h]
  cases x with
  | false => rfl
  | true => simp [tru, h2 rfl]
theorem or_sc {Φ : List FE} {a b : ME} {ρ : LS} {s : S1} {x y : Bool} (h : ev Φ a ρ s = some (.bool x, s)) (h2 : x = false → ev Φ b ρ s = some (.bool y, s)) : ev Φ (.or_ a b) ρ s = some (.bool (x || y), s) := by
  rw [ev, h]
  cases x with
  | true => rfl
  | false => simp [tru, h2 rfl]
theorem not_b {Φ : List FE} {a : ME} {ρ : LS} {s : S1} {x : Bool} (h : ev Φ a ρ s = some (.bool x, s)) : ev Φ (.not_ a) ρ s = some (.bool (!x), s) := by
  rw [ev, h]
  rfl
theorem chn_lt {Φ : List FE} {a b c : ME} {ρ : LS} {s : S1} {i j k : Int} (h : ev Φ a ρ s = some (.int i, s)) (h2 : ev Φ b ρ s = some (.int j, s)) (h3 : ev Φ c ρ s = some (.int k, s)) : ev Φ (.chn .lt .lt a b c) ρ s = some (.bool (decide (i < j) && decide (j < k)), s) := by
  rw [ev, h, Option.bind_some]
  dsimp only
  rw [h2, Option.bind_some]
  dsimp only
  rw [show dCmp .lt (.int i) (.int j) = some (decide (i < j)) from rfl, Option.bind_some]
  cases decide (i < j) with
  | false => rfl
  | true =>
    rw [if_pos rfl, h3]
    rfl
theorem chn_le {Φ : List FE} {a b c : ME} {ρ : LS} {s : S1} {i j k : Int} (h : ev Φ a ρ s = some (.int i, s)) (h2 : ev Φ b ρ s = some (.int j, s)) (h3 : ev Φ c ρ s = some (.int k, s)) : ev Φ (.chn .le .le a b c) ρ s = some (.bool (decide (i ≤ j) && decide (j ≤ k)), s) := by
  rw [ev, h, Option.bind_some]
  dsimp only
  rw [h2, Option.bind_some]
  dsimp only
  rw [show dCmp .le (.int i) (.int j) = some (decide (i ≤ j)) from rfl, Option.bind_some]
  cases decide (i ≤ j) with
  | false => rfl
  | true =>
    rw [if_pos rfl, h3]
    rfl
theorem ev_isi {Φ : List FE} {a : ME} {t : TY} {ρ : LS} {s s1 : S1} {x : D} (h : ev Φ a ρ s = some (x, s1)) : ev Φ (.isi a t) ρ s = some (.bool (isTy t x), s1) := by
  rw [ev, h]
  rfl
theorem evt_one {Φ : List FE} {c : ME} {ρ : LS} {s : S1} {b : Bool} (h : ev Φ c ρ s = some (.bool b, s)) : evt Φ (.cons c .nil) ρ s = some (b, s) := by
  rw [evt, h, Option.bind_some]
  show (Option.bind (some b) _) = _
  rw [Option.bind_some]
  cases b <;> rfl
theorem bools_map {α : Type} (f : α → Bool) : ∀ l : List α, boolsOf (l.map fun x => PyData.bool (f x)) = some (l.map f)
  | [] => rfl
  | x :: l => by
    rw [List.map_cons, List.map_cons]
    show (boolsOf (l.map _)).map _ = _
    rw [bools_map f l]
    rfl
/-- all([f(x) for x in xs]) -/
theorem ev_all {Φ : List FE} {elt it : ME} {v : Nat} {ρ : LS} {s : S1} {xs : List D} (f : D → Bool) {x : D} (hi : ev Φ it ρ s = some (x, s)) (hx : itOf x = some xs) (hv : v < ρ.length) (h : ∀ y ∈ xs, ev Φ elt ((wipeS ρ [v]).set v (.d y)) s = some (.bool (f y), s)) (hl : xs.length ≤ sizeLine) :
    ev Φ (.b1 .all (.comp elt (.nm v) (.seq it) .nil [v])) ρ s = some (.bool (xs.all f), s) := by
  refine ev_b1 (x := .list (xs.map fun y => .bool (f y))) (ev_comp (xs := xs) (s1 := s) ?_ ?_ (by rw [List.length_map]; exact hl)) ?_
  · rw [evi, hi, Option.bind_some]
    dsimp only
    rw [hx]
    rfl
  · have := compRun_all (ft := evt Φ .nil) (fe := ev Φ elt) (t := .nm v) (ρ := wipeS ρ [v]) (s := s) (fun x => x) (fun y => PyData.bool (f y)) (xs := xs) (fun y hy => ⟨_, by
      show (if v < (wipeS ρ [v]).length then some ((wipeS ρ [v]).set v (.d y)) else none) = _
      rw [if_pos (by show v < (ρ.set v .un).length; rw [List.length_set]; exact hv)], rfl, h y hy⟩)
    simpa using this
  · show (boolsOf _).map _ = _
    rw [bools_map]
    simp [Function.comp_def]
/-- [x for x in xs if f(x)] -/
theorem ev_fil {Φ : List FE} {c it : ME} {v : Nat} {ρ : LS} {s : S1} {xs : List D} (f : D → Bool) {x : D} (hi : ev Φ it ρ s = some (x, s)) (hx : itOf x = some xs) (hv : v < ρ.length) (h : ∀ y ∈ xs, ev Φ c ((wipeS ρ [v]).set v (.d y)) s = some (.bool (f y), s)) (hl : xs.length ≤ sizeLine) :
    ev Φ (.comp (.nm v) (.nm v) (.seq it) (.cons c .nil) [v]) ρ s = some (.list (xs.filter f), s) := by
  refine ev_comp (xs := xs) (s1 := s) ?_ ?_ (Nat.le_trans (List.length_filter_le _ _) hl)
  · rw [evi, hi, Option.bind_some]
    dsimp only
    rw [hx]
    rfl
  · have := compRun_fil (ft := evt Φ (.cons c .nil)) (fe := ev Φ (.nm v)) (t := .nm v) (ρ := wipeS ρ [v]) (s := s) (fun x => x) f (fun x => x) (xs := xs) (fun y hy => ⟨_, by
      show (if v < (wipeS ρ [v]).length then some ((wipeS ρ [v]).set v (.d y)) else none) = _
      rw [if_pos (by show v < (ρ.set v .un).length; rw [List.length_set]; exact hv)], evt_one (h y hy), fun _ => ev_nm (by
        rw [List.getElem?_set_self]
        show v < (ρ.set v .un).length
        rw [List.length_set]
        exact hv)⟩)
    simpa using this
/-! ### fine data -/
mutual
def fine : D → Bool
  | .none => true
  | .bool _ => true
  | .int i => decide (i.natAbs ≤ 10 ^ 64)
  | .str z => PyData.strOk z && decide (z.length ≤ 100)
  | .list xs => decide (xs.length ≤ 1000) && fineA xs
  | .tuple xs => decide (xs.length ≤ 1000) && fineA xs
  | .dict _ => false
def fineA : List D → Bool
  | [] => true
  | x :: xs => fine x && fineA xs
end
theorem fineA_iff : ∀ {xs : List D}, fineA xs = true ↔ ∀ x ∈ xs, fine x = true
  | [] => by simp [fineA]
  | x :: xs => by simp [fineA, fineA_iff]
mutual
theorem fine_lay : ∀ {d : D}, fine d = true → d.canLay0 = true
  | .none, _ => rfl
  | .bool _, _ => rfl
  | .int _, _ => rfl
  | .str z, h => by
    simp only [fine, Bool.and_eq_true] at h
    exact h.1
  | .list xs, h => by
    simp only [fine, Bool.and_eq_true] at h
    exact fine_layA h.2
  | .tuple xs, h => by
    simp only [fine, Bool.and_eq_true] at h
    exact fine_layA h.2
  | .dict _, h => by simp [fine] at h
theorem fine_layA : ∀ {xs : List D}, fineA xs = true → PyData.canLayAll0 xs = true
  | [], _ => rfl
  | x :: xs, h => by
    simp only [fineA, Bool.and_eq_true] at h
    rw [PyData.canLayAll0, fine_lay h.1, fine_layA h.2]
    rfl
end
/-- fine, not too deep -/
structure Fi (d : D) : Prop where
  f : fine d = true
  dp : d.depth ≤ 50
theorem Fi.shaped {d : D} (h : Fi d) : SeqAt.shaped d = true := by
  unfold SeqAt.shaped
  rw [fine_lay h.f, decide_eq_true (Nat.le_trans h.dp (by decide))]
  rfl
theorem depth_mem {x : D} : ∀ {xs : List D}, x ∈ xs → x.depth ≤ PyData.depthAll xs
  | y :: ys, h => by
    rw [PyData.depthAll]
    rcases List.mem_cons.mp h with rfl | h
    · exact Nat.le_max_left _ _
    · exact Nat.le_trans (depth_mem h) (Nat.le_max_right _ _)
theorem Fi.mem {xs : List D} (h : Fi (.tuple xs)) : xs.length ≤ 1000 ∧ ∀ x ∈ xs, Fi x := by
  have h1 := h.f
  simp only [fine, Bool.and_eq_true, decide_eq_true_eq] at h1
  refine ⟨h1.1, fun x hx => ⟨fineA_iff.mp h1.2 x hx, ?_⟩⟩
  have := h.dp
  rw [PyData.depth] at this
  have := depth_mem hx
  omega
theorem Fi.str {z : Str} (h : Fi (.str z)) : PyData.strOk z = true ∧ z.length ≤ 100 := by
  have h1 := h.f
  simpa [fine] using h1
theorem Fi.int {i : Int} (h : Fi (.int i)) : i.natAbs ≤ 10 ^ 64 := by
  have h1 := h.f
  simpa only [fine, decide_eq_true_eq] using h1
theorem len_ok {n : Nat} (h : n ≤ 1000) : n ≤ sizeLine := Nat.le_trans h (by decide)
/-! ### kinds -/
def isInt : D → Bool
  | .int _ => true
  | _ => false
def isNat (l : Int) : D → Bool
  | .int i => decide (l ≤ i)
  | _ => false
def isTp : D → Bool
  | .tuple _ => true
  | _ => false
def isStr : D → Bool
  | .str _ => true
  | _ => false
def items : D → List D
  | .tuple xs => xs
  | _ => []
def g (xs : List D) (i : Nat) : D := xs.getD i .none
def abc : Str := "abcdefghijklmnopqrstuvwxyz"
def sgn : Str := "abcdefghijklmnopqrstuvwxyzABCDEFGHIJKLMNOPQRSTUVWXYZ0123456789 -_"
def inS (S z : Str) : Bool := z.cps.toList.all fun c => decide (c ∈ S.cps.toList)
def isName : D → Bool
  | .str z => (decide ((0 : Int) < z.length) && decide ((z.length : Int) < 9)) && inS abc z
  | _ => false
def isVal : D → Bool
  | .none => true
  | .int _ => true
  | .str z => decide ((z.length : Int) < 13) && inS sgn z
  | _ => false
def isTask : D → Bool
  | .tuple xs => decide ((xs.length : Int) = 2) && (isName (g xs 0) && isNat 0 (g xs 1))
  | _ => false
def isOne : D → Bool
  | .int i => decide (i = 1 ∨ i = -1)
  | _ => false
def isRow : D → Bool
  | .tuple xs => decide ((xs.length : Int) = 3) && (isNat 0 (g xs 0) && (isOne (g xs 1) && (isTp (g xs 2) && (items (g xs 2)).all isVal)))
  | _ => false
theorem g_idx {xs : List D} {i : Nat} (h : i < xs.length) : dIdx (.tuple xs) (.int (i : Nat)) = some (g xs i) := by
  show L2.atI xs (i : Int) = _
  rw [atI_nat]
  unfold g
  rw [List.getElem?_eq_getElem h, List.getD_eq_getElem?_getD, List.getElem?_eq_getElem h]
  rfl
theorem g_mem {xs : List D} {i : Nat} (h : i < xs.length) : g xs i ∈ xs := by
  unfold g
  rw [List.getD_eq_getElem?_getD, List.getElem?_eq_getElem h]
  exact List.getElem_mem h
def cp (d : D) : Nat := match d with
  | .str x => x.cps.toList.headD 0
  | _ => 0
theorem chars_in (S : Str) {c : Nat} : dCmp .isin (.str ⟨#[c]⟩) (.str S) = some (decide (c ∈ S.cps.toList)) := by
  show some (!(Builtin.Str.occurrences S ⟨#[c]⟩ 0 S.length 1).isEmpty) = _
  rw [PySem.StrLaws.found_one]
theorem itS {z : Str} (h : z.length ≤ 100) : itOf (.str z) = some (z.cps.toList.map fun c => .str ⟨#[c]⟩) := by
  show (if z.length ≤ sizeLine then _ else _) = _
  rw [if_pos (len_ok (Nat.le_trans h (by decide)))]
theorem all_chars {S z : Str} : (z.cps.toList.map fun c => PyData.str ⟨#[c]⟩).all (fun y => decide (cp y ∈ S.cps.toList)) = inS S z := by
  rw [List.all_map]
  rfl
theorem ev_in {Φ : List FE} {S z : Str} {ρ : LS} {s : S1} {v i : Nat} (h : ρ[i]? = some (.d (.str z))) (hl : z.length ≤ 100) (hv : v < ρ.length) : ev Φ (.b1 .all (.comp (.cmp .isin (.nm v) (.k (.str S))) (.nm v) (.seq (.nm i)) .nil [v])) ρ s = some (.bool (inS S z), s) := by
  have := ev_all (Φ := Φ) (elt := .cmp .isin (.nm v) (.k (.str S))) (it := .nm i) (v := v) (ρ := ρ) (s := s) (fun y => decide (cp y ∈ S.cps.toList)) (ev_nm h) (itS hl) hv (fun y hy => by
    obtain ⟨c, hc, rfl⟩ := List.mem_map.mp hy
    refine ev_cmp (x := .str ⟨#[c]⟩) (y := .str S) (ev_nm ?_) ev_k (chars_in S (c := c))
    rw [List.getElem?_set_self]
    show v < (ρ.set v .un).length
    rw [List.length_set]
    exact hv) (by rw [List.length_map]; exact len_ok (Nat.le_trans hl (by decide)))
  rw [all_chars] at this
  exact this
theorem len_str {z : Str} (h : z.length ≤ 100) : dB1 .len (.str z) = some (.int (z.length : Nat)) := by
  show (if z.length ≤ sizeLine then _ else _) = _
  rw [if_pos (len_ok (Nat.le_trans h (by decide)))]
theorem ev_len {Φ : List FE} {xs : List D} {ρ : LS} {s : S1} {i : Nat} (h : ρ[i]? = some (.d (.tuple xs))) : ev Φ (.b1 .len (.nm i)) ρ s = some (.int (xs.length : Nat), s) := ev_b1 (x := .tuple xs) (ev_nm h) rfl
theorem ev_g {Φ : List FE} {xs : List D} {ρ : LS} {s : S1} {i j : Nat} (h : ρ[i]? = some (.d (.tuple xs))) (hj : j < xs.length) : ev Φ (.idx (.nm i) (.k (.int (j : Nat)))) ρ s = some (g xs j, s) := ev_idx (x := .tuple xs) (y := .int (j : Nat)) (ev_nm h) ev_k (g_idx hj)
theorem in_tup {x : D} {ys : List D} (h : SeqAt.shaped x = true) (h2 : SeqAt.shaped (.tuple ys) = true) : dIn x (.tuple ys) = some (ys.any fun y => PyData.eqv y x) := by
  unfold dIn
  exact if_pos ⟨h, h2⟩
theorem one_in {i : Int} : dCmp .isin (.int i) (.tuple [.int 1, .int (-1)]) = some (decide (i = 1 ∨ i = -1)) := by
  refine (in_tup (x := .int i) (ys := [.int 1, .int (-1)]) rfl (by decide +kernel)).trans ?_
  congr 1
  simp only [List.any_cons, List.any_nil, PyData.eqv, Bool.or_false]
  rw [int_dec, int_dec, ← Bool.decide_or]
  congr 1
  rw [eq_iff_iff]
  omega
theorem all_same {xs : List D} {f h : D → Bool} (e : ∀ x ∈ xs, f x = h x) : xs.all f = xs.all h := by
  rw [Bool.eq_iff_iff, List.all_eq_true, List.all_eq_true]
  exact ⟨fun z x hx => by rw [← e x hx]; exact z x hx, fun z x hx => by rw [e x hx]; exact z x hx⟩
abbrev Fd (d : D) : Prop := Fi d ∨ d = .dict []
/-- fine, to be shown -/
structure Tq (k n : Nat) (d : D) : Prop where
  sh : d.showable = true
  dp : d.depth ≤ k
  bk : d.bulk ≤ n
  lv : d.leavesShort 80 = true
  fn : fine d = true
theorem Tq.mono {k n k' n' : Nat} {d : D} (h : Tq k n d) (h1 : k ≤ k') (h2 : n ≤ n') : Tq k' n' d := ⟨h.sh, Nat.le_trans h.dp h1, Nat.le_trans h.bk h2, h.lv, h.fn⟩
theorem Tq.none {k n : Nat} : Tq k n .none := ⟨rfl, Nat.zero_le _, Nat.zero_le _, rfl, rfl⟩
theorem Tq.bool {k n : Nat} (b : Bool) : Tq k n (.bool b) := ⟨rfl, Nat.zero_le _, Nat.zero_le _, rfl, rfl⟩
theorem Tq.int {k n : Nat} {i : Int} (h : i.natAbs < 10 ^ 13) : Tq k n (.int i) := by
  refine ⟨?_, Nat.zero_le _, Nat.zero_le _, ?_, ?_⟩
  · show decide (i.natAbs.log2 < 1920) = true
    exact decide_eq_true (log12 h)
  · show decide ((PyData.shown (.int i)).length ≤ 80) = true
    exact decide_eq_true (Nat.le_trans (shown13 h) (by decide))
  · show decide (i.natAbs ≤ 10 ^ 64) = true
    exact decide_eq_true (Nat.le_trans (Nat.le_of_lt h) (by decide +kernel))
theorem Tq.str {k n : Nat} {x : Str} (h : PyData.strOk x = true) (hl : x.length ≤ n) (h1 : x.length ≤ 100) : Tq k n (.str x) := by
  refine ⟨rfl, Nat.zero_le _, hl, ?_, ?_⟩
  · have := PyData.leavesShort_of_canLay0 80 (.str x) h rfl
    exact this
  · show (PyData.strOk x && decide (x.length ≤ 100)) = true
    rw [h, decide_eq_true h1]
    rfl
theorem show_all : ∀ {xs : List D}, (∀ x ∈ xs, x.showable = true) → PyData.showableAll xs = true
  | [], _ => rfl
  | x :: xs, h => by
    rw [PyData.showableAll, h x List.mem_cons_self, show_all fun y hy => h y (List.mem_cons_of_mem _ hy)]
    rfl
theorem leaf_all : ∀ {xs : List D}, (∀ x ∈ xs, x.leavesShort 80 = true) → PyData.leavesShortAll 80 xs = true
  | [], _ => rfl
  | x :: xs, h => by
    rw [PyData.leavesShortAll, h x List.mem_cons_self, leaf_all fun y hy => h y (List.mem_cons_of_mem _ hy)]
    rfl
section
variable {k m n : Nat} {xs : List D}
theorem Tq.tup (h : ∀ x ∈ xs, Tq k m x) (hn : xs.length * (m + 1) ≤ n) (hl : xs.length ≤ 1000) : Tq (k + 1) n (.tuple xs) := by
  refine ⟨show_all fun x hx => (h x hx).sh, ?_, ?_, leaf_all fun x hx => (h x hx).lv, ?_⟩
  · show PyData.depthAll xs + 1 ≤ k + 1
    have := depthAll_le (k := k) fun x hx => (h x hx).dp
    omega
  · show PyData.bulkAll xs ≤ n
    have := bulkAll_le (m := m) fun x hx => (h x hx).bk
    omega
  · show (decide (xs.length ≤ 1000) && fineA xs) = true
    rw [decide_eq_true hl, fineA_iff.mpr fun x hx => (h x hx).fn]
    rfl
theorem Tq.list (h : ∀ x ∈ xs, Tq k m x) (hn : xs.length * (m + 1) ≤ n) (hl : xs.length ≤ 1000) : Tq (k + 1) n (.list xs) := by
  have t := Tq.tup h hn hl
  exact ⟨t.sh, t.dp, t.bk, t.lv, t.fn⟩
end
theorem Tq.fi {k n : Nat} {d : D} (h : Tq k n d) (hk : k ≤ 50) : Fi d := ⟨h.fn, Nat.le_trans h.dp hk⟩
mutual
theorem fine_noDict : ∀ {d : D}, fine d = true → d.hasDict = false
  | .none, _ => rfl
  | .bool _, _ => rfl
  | .int _, _ => rfl
  | .str _, _ => rfl
  | .list xs, h => by
    simp only [fine, Bool.and_eq_true] at h
    exact fine_noDictA h.2
  | .tuple xs, h => by
    simp only [fine, Bool.and_eq_true] at h
    exact fine_noDictA h.2
  | .dict _, h => by simp [fine] at h
theorem fine_noDictA : ∀ {xs : List D}, fineA xs = true → PyData.hasDictAll xs = false
  | [], _ => rfl
  | x :: xs, h => by
    simp only [fineA, Bool.and_eq_true] at h
    rw [PyData.hasDictAll, fine_noDict h.1, fine_noDictA h.2]
    rfl
end
theorem Tq.repr {k n : Nat} {d : D} (h : Tq k n d) (hk : k ≤ 60) (hn : n ≤ 12000) : ∃ z, dRepr d = some (.str z) := by
  unfold dRepr
  have h4 : d.shown.length ≤ sizeLine := by
    have e := PyData.shown_le_bulk 80 (by decide) d h.lv
    have e2 : (80 + 2) * d.bulk ≤ 82 * 12000 := Nat.mul_le_mul (by decide) (Nat.le_trans h.bk hn)
    rw [sizeLine_eq]
    omega
  exact ⟨_, if_pos ⟨h.sh, .inl (fine_noDict h.fn), Nat.le_trans h.dp hk, h4⟩⟩
/-- a near value: it may be shown, it may be judged -/
structure Nv (v : D) : Prop where
  r : ∃ z, dRepr v = some (.str z)
  m : ∀ xs, v = .tuple xs → ∀ x ∈ xs, Fd x
theorem Tq.nv {k n : Nat} {d : D} (h : Tq k n d) (hk : k ≤ 50) (hn : n ≤ 12000) : Nv d := ⟨h.repr (by omega) hn, fun xs e x hx => by
  subst e
  exact .inl ((h.fi hk).mem.2 x hx)⟩
theorem nv_dict : Nv (.dict []) := ⟨⟨_, if_pos (by decide +kernel)⟩, nofun⟩
mutual
theorem imm_noL : ∀ {d : D}, imm d = true → noL d = true
  | .none, _ => rfl
  | .bool _, _ => rfl
  | .int _, _ => rfl
  | .str _, _ => rfl
  | .list xs, h => by simp [imm] at h
  | .tuple xs, h => by
    rw [imm] at h
    rw [noL]
    exact imm_noLA h
  | .dict _, h => by simp [imm] at h
theorem imm_noLA : ∀ {xs : List D}, immAll xs = true → noLA xs = true
  | [], _ => rfl
  | x :: xs, h => by
    rw [immAll, Bool.and_eq_true] at h
    rw [noLA, imm_noL h.1, imm_noLA h.2]
    rfl
end
theorem noLA_all : ∀ {xs : List D}, (∀ x ∈ xs, noL x = true) → noLA xs = true
  | [], _ => rfl
  | x :: xs, h => by
    rw [noLA, h x List.mem_cons_self, noLA_all fun y hy => h y (List.mem_cons_of_mem _ hy)]
    rfl
/-- a tuple in which some are {} -/
theorem nv_mixed {k m : Nat} {xs : List D} (h : ∀ x ∈ xs, (Tq k m x ∧ noL x = true) ∨ x = .dict []) (hk : k ≤ 50) (hn : xs.length * (m + 1) ≤ 12000) : Nv (.tuple xs) := by
  refine ⟨?_, fun ys e x hx => ?_⟩
  · unfold dRepr
    have h1 : PyData.showable (.tuple xs) = true := show_all fun x hx => by
      rcases h x hx with h | rfl
      · exact h.1.sh
      · rfl
    have h2 : noL (.tuple xs) = true := noLA_all fun x hx => by
      rcases h x hx with h | rfl
      · exact h.2
      · rfl
    have h3 : (PyData.tuple xs).depth ≤ 60 := by
      show PyData.depthAll xs + 1 ≤ 60
      have := depthAll_le (k := 55) (xs := xs) fun x hx => by
        rcases h x hx with h | rfl
        · exact Nat.le_trans h.1.dp (by omega)
        · decide
      omega
    have h5 : (PyData.tuple xs).leavesShort 80 = true := leaf_all fun x hx => by
      rcases h x hx with h | rfl
      · exact h.1.lv
      · rfl
    have h6 : (PyData.tuple xs).bulk ≤ 12000 := by
      show PyData.bulkAll xs ≤ 12000
      have := bulkAll_le (m := m) (xs := xs) fun x hx => by
        rcases h x hx with h | rfl
        · exact h.1.bk
        · exact Nat.zero_le _
      omega
    have h4 : (PyData.tuple xs).shown.length ≤ sizeLine := by
      have e := PyData.shown_le_bulk 80 (by decide) (.tuple xs) h5
      have e2 : (80 + 2) * (PyData.tuple xs).bulk ≤ 82 * 12000 := Nat.mul_le_mul (by decide) h6
      rw [sizeLine_eq]
      omega
    exact ⟨_, if_pos ⟨h1, .inr h2, h3, h4⟩⟩
  · cases e
    rcases h x hx with h | rfl
    · exact .inl (h.1.fi hk)
    · exact .inr rfl
theorem ev_slc_from {Φ : List FE} {ρ : LS} {a e : ME} {s s1 s2 : S1} {x z : D} {j : Int} (h : ev Φ a ρ s = some (x, s1)) (h2 : ev Φ e ρ s1 = some (.int j, s2)) (hz : dSlc x (some j) none = some z) : ev Φ (.slc a (.yes e) .no) ρ s = some (z, s2) := by
  rw [ev, h, Option.bind_some]
  have h3 : evo Φ (.yes e) ρ s1 = some (some j, s2) := by
    rw [evo, h2]
    rfl
  have h4 : evo Φ .no ρ s2 = some (none, s2) := by rw [evo]
  simp only [h3, Option.bind_some, h4, hz, Option.map]
theorem cut_mem {xs : List D} {lo hi : Option Int} {x : D} (h : x ∈ cutD xs lo hi) : x ∈ xs := List.mem_of_mem_drop (List.mem_of_mem_take h)
theorem cut_len (xs : List D) (lo hi : Option Int) : (cutD xs lo hi).length ≤ xs.length := by
  unfold cutD
  rw [List.length_take, List.length_drop]
  omega
theorem add_lst {xs ys : List D} (h : xs.length + ys.length ≤ 1000) : dOp .add (.list xs) (.list ys) = some (.list (xs ++ ys)) := by
  show (if xs.length + ys.length ≤ sizeLine then _ else _) = _
  rw [if_pos (len_ok h)]
theorem add_tup {xs ys : List D} (h : xs.length + ys.length ≤ 1000) : dOp .add (.tuple xs) (.tuple ys) = some (.tuple (xs ++ ys)) := by
  show (if xs.length + ys.length ≤ sizeLine then _ else _) = _
  rw [if_pos (len_ok h)]
end Os
end
section
set_option linter.all false
set_option maxRecDepth 100000
set_option maxHeartbeats 4000000
/-! OwI: more steps that hang on no law: parallel stores, lists, cuts, equal texts. -/
namespace Os
open PySem PySem.Spec PyProof.Rows L2 PySem.W
theorem run_par {Φ : List FE} {is : List Nat} {mds : List Mode} {es : MEs} {ρ : LSS} {s s1 : S1} {xs : List SS} (h : evP Φ mds es ρ s = some (xs, s1)) (hl : xs.length = is.length) (nd : is.Nodup) (ha : (is.all fun i => decide (i < ρ.length)) = true) : run Φ (.par is mds es) ρ s = some (.nx (setAll is xs ρ) s1) := by
  rw [run, h, Option.bind_some]
  dsimp only
  rw [if_pos ⟨hl, nd, ha⟩]
theorem ev_lst {Φ : List FE} {es : MEs} {ρ : LS} {s s1 : S1} {xs : List D} (h : evs Φ es ρ s = some (xs, s1)) (hz : xs.length ≤ sizeLine) : ev Φ (.lst es) ρ s = some (.list xs, s1) := by
  rw [ev, h, Option.bind_some]
  exact if_pos hz
theorem cut_to (xs : List D) (k : Nat) : cutD xs none (some (k : Int)) = xs.take k := by
  have e1 : HT.sIx xs.length 0 none = 0 := rfl
  have e2 : HT.sIx xs.length xs.length (some (k : Int)) = min k xs.length := by
    unfold HT.sIx
    simp
    intro h
    omega
  unfold cutD
  rw [e1, e2, List.drop_zero, Nat.sub_zero]
  by_cases h : k ≤ xs.length
  · rw [Nat.min_eq_left h]
  · rw [Nat.min_eq_right (by omega), List.take_length, List.take_of_length_le (by omega)]
theorem cut_from (xs : List D) (k : Nat) : cutD xs (some (k : Int)) none = xs.drop k := by
  have e1 : HT.sIx xs.length 0 (some (k : Int)) = min k xs.length := by
    unfold HT.sIx
    simp
    intro h
    omega
  have e2 : HT.sIx xs.length xs.length none = xs.length := rfl
  unfold cutD
  rw [e1, e2, List.take_of_length_le (by rw [List.length_drop]; omega)]
  by_cases h : k ≤ xs.length
  · rw [Nat.min_eq_left h]
  · rw [Nat.min_eq_right (by omega), List.drop_length, List.drop_of_length_le (by omega)]
theorem slc_to (xs : List D) (k : Nat) : dSlc (.list xs) none (some (k : Int)) = some (.list (xs.take k)) := by
  show some (PyData.list (cutD xs none (some (k : Int)))) = _
  rw [cut_to]
theorem slc_from (xs : List D) (k : Nat) : dSlc (.list xs) (some (k : Int)) none = some (.list (xs.drop k)) := by
  show some (PyData.list (cutD xs (some (k : Int)) none)) = _
  rw [cut_from]
theorem slc_toT (xs : List D) (k : Nat) : dSlc (.tuple xs) none (some (k : Int)) = some (.tuple (xs.take k)) := by
  show some (PyData.tuple (cutD xs none (some (k : Int)))) = _
  rw [cut_to]
theorem slc_fromT (xs : List D) (k : Nat) : dSlc (.tuple xs) (some (k : Int)) none = some (.tuple (xs.drop k)) := by
  show some (PyData.tuple (cutD xs (some (k : Int)) none)) = _
  rw [cut_from]
theorem ne_repr {Φ : List FE} {a b : ME} {ρ : LS} {s s1 s2 : S1} {d : D} {z : Str} (h : ev Φ a ρ s = some (d, s1)) (h2 : ev Φ b ρ s1 = some (d, s2)) (hz : dRepr d = some (.str z)) : ev Φ (.cmp .ne (.b1 .repr a) (.b1 .repr b)) ρ s = some (.bool false, s2) :=
  ev_cmp (x := .str z) (y := .str z) (ev_b1 h hz) (ev_b1 h2 hz) ne_str
/-- repr(a) != shown -/
theorem ne_held {Φ : List FE} {a : ME} {ρ : LS} {s s1 : S1} {d : D} {z : Str} {i : Nat} (h : ev Φ a ρ s = some (d, s1)) (hz : dRepr d = some (.str z)) (hi : ρ[i]? = some (.d (.str z))) : ev Φ (.cmp .ne (.b1 .repr a) (.nm i)) ρ s = some (.bool false, s1) :=
  ev_cmp (x := .str z) (y := .str z) (ev_b1 h hz) (ev_nm hi) ne_str
theorem eqv_fi {d : D} (h : Fi d) : PyData.eqv d d = true := SeqAt.eqv_refl d (fine_lay h.f)
theorem eq_fi {d : D} (h : Fi d) : dCmp .eq d d = some true := by
  show dEq d d = _
  unfold dEq
  split
  · simp
  · simp
  · exact absurd h.f (by simp [fine])
  · rw [if_pos ⟨h.shaped, h.shaped⟩, eqv_fi h]
theorem ne_fi {d : D} (h : Fi d) : dCmp .ne d d = some false := by
  have := eq_fi h
  show (dEq d d).map _ = _
  rw [show dEq d d = some true from this]
  rfl
theorem not_b' {Φ : List FE} {a : ME} {ρ : LS} {s s1 : S1} {x : Bool} (h : ev Φ a ρ s = some (.bool x, s1)) : ev Φ (.not_ a) ρ s = some (.bool (!x), s1) := by
  rw [ev, h]
  rfl
theorem evi_range {Φ : List FE} {e : ME} {ρ : LS} {s s1 : S1} {m : Nat} (h : ev Φ e ρ s = some (.int (m : Nat), s1)) (hm : m < 1000000) : evi Φ (.range1 e) ρ s = some ((List.range' 0 m).map fun i => PyData.int (i : Nat), s1) := by
  rw [evi, h, Option.bind_some]
  dsimp only
  rw [if_pos (show -(2 ^ 62) ≤ (m : Int) ∧ (m : Int) < 2 ^ 62 by omega), Int.toNat_natCast, range_int]
theorem evi_seq {Φ : List FE} {e : ME} {ρ : LS} {s s1 : S1} {x : D} {xs : List D} (h : ev Φ e ρ s = some (x, s1)) (hx : itOf x = some xs) : evi Φ (.seq e) ρ s = some (xs, s1) := by
  rw [evi, h, Option.bind_some]
  dsimp only
  rw [hx]
  rfl
theorem ev_ite_t {Φ : List FE} {c a b : ME} {ρ : LS} {s s1 : S1} {x : D} {r : Option (D × S1)} (h : ev Φ c ρ s = some (x, s1)) (ht : tru x = some true) (h2 : ev Φ a ρ s1 = r) : ev Φ (.ite c a b) ρ s = r := by
  rw [ev, h, Option.bind_some]
  dsimp only
  rw [ht]
  exact h2
theorem ev_ite_f {Φ : List FE} {c a b : ME} {ρ : LS} {s s1 : S1} {x : D} {r : Option (D × S1)} (h : ev Φ c ρ s = some (x, s1)) (ht : tru x = some false) (h2 : ev Φ b ρ s1 = r) : ev Φ (.ite c a b) ρ s = r := by
  rw [ev, h, Option.bind_some]
  dsimp only
  rw [ht]
  exact h2
theorem run_par2 {Φ : List FE} {i j : Nat} {m1 m2 : Mode} {e1 e2 : ME} {ρ : LSS} {s s1 s2 : S1} {x y : SS} (h1 : evM Φ m1 e1 ρ s = some (x, s1)) (h2 : evM Φ m2 e2 ρ s1 = some (y, s2)) (hi : i < ρ.length ∧ j < ρ.length ∧ i ≠ j) : run Φ (.par2 i j m1 m2 e1 e2) ρ s = some (.nx ((ρ.set i x).set j y) s2) := by
  rw [run, h1, Option.bind_some]
  dsimp only
  rw [h2, Option.bind_some]
  dsimp only
  rw [if_pos hi]
theorem c_eq {Φ : List FE} {ρ : LS} {s : S1} {i : Nat} {h x : Str} (hi : ρ[i]? = some (.d (.str h))) : ev Φ (.cmp .eq (.nm i) (.k (.str x))) ρ s = some (.bool (decide (h = x)), s) := ev_cmp (x := .str h) (y := .str x) (s1 := s) (ev_nm hi) ev_k rfl
theorem src_args {Φ : List FE} {i : Nat} {ρ : LS} {s s1 : S1} {r : MAs} {as : List SL} (hi : ρ[i]? = some .src) (h : eva Φ r ρ s = some (as, s1)) : eva Φ (.src i r) ρ s = some (.src :: as, s1) := by
  rw [eva, hi]
  simp only [h, Option.map]
end Os
end
section
set_option linter.all false
set_option maxRecDepth 100000
set_option maxHeartbeats 4000000
namespace Os
open PySem PySem.Spec PyProof.Rows L2
/-! the text by places -/
def tp (i : Nat) : Stmt := PySem.Challenge.pw_oncestream_k11_tallies.main.body.getD i (.Pass ⟨0, 0, 0, 0⟩)
abbrev t_is_integer_values : Stmt := tp 2
abbrev t_is_value : Stmt := tp 4
abbrev t_rank : Stmt := tp 5
abbrev t_is_how : Stmt := tp 8
abbrev t_is_integer_sums : Stmt := tp 9
abbrev t_is_tally : Stmt := tp 11
abbrev t_empty : Stmt := tp 12
abbrev t_listed : Stmt := tp 13
abbrev t_add : Stmt := tp 14
abbrev t_add_all : Stmt := tp 15
abbrev t_joined : Stmt := tp 16
abbrev t_both : Stmt := tp 17
abbrev t_less : Stmt := tp 18
abbrev t_tell : Stmt := tp 19
abbrev t_w_rank : Stmt := tp 21
abbrev t_w_open_cells : Stmt := tp 22
abbrev t_w_pick : Stmt := tp 23
abbrev t_w_any_order : Stmt := tp 24
abbrev t_w_draw_given_value : Stmt := tp 25
abbrev t_w_tally : Stmt := tp 26
abbrev t_w_tell : Stmt := tp 27
abbrev t_w_draw_pairs : Stmt := tp 28
abbrev t_w_is_given : Stmt := tp 29
abbrev t_w_is_due : Stmt := tp 30
abbrev t_w_near : Stmt := tp 31
abbrev t_w_made_right : Stmt := tp 32
abbrev t_law : Stmt := tp 33
def gkL : List (Str × D) := [("SIGNS", (.str "abcdefghijklmnopqrstuvwxyzABCDEFGHIJKLMNOPQRSTUVWXYZ0123456789 -_")), ("HOWS", (.tuple [.str "count", .str "sum", .str "least", .str "greatest"]))]
def F_00 : List FE := []
/-! is_integer -/
def N_is_integer_values : List Str := ["value"]
def M_is_integer_values : MSs := (.cons (.ret (.and_ (.isi (.nm 0) .int) (.not_ (.isi (.nm 0) .bool)))) .nil)
theorem T_is_integer_values : TrSs (pureL F_00) gkL false N_is_integer_values (defScope t_is_integer_values) (defBody t_is_integer_values) M_is_integer_values := (.cons (.ret (.bo (o := .And) (.cons (.isi .int (by decide +kernel) (by decide +kernel) (.nm rfl (.inl (by decide +kernel)) (by decide +kernel) (by decide +kernel))) (.one (.not_ (.isi .bool (by decide +kernel) (by decide +kernel) (.nm rfl (.inl (by decide +kernel)) (by decide +kernel) (by decide +kernel)))))))) .nil)
def E_is_integer_values : FE := ⟨"is_integer_values", 1, semOf (pureL F_00) false 1 M_is_integer_values, false, true⟩
theorem S_is_integer_values : FnScope N_is_integer_values ["value"] (defScope t_is_integer_values) := ⟨rfl, rfl, rfl, by decide +kernel, rfl, by decide +kernel, by decide +kernel⟩
def F_01 : List FE := F_00 ++ [E_is_integer_values]
theorem A_is_integer_values : E_is_integer_values.ar = 1 := rfl
/-! is_value -/
def N_is_value : List Str := ["value", "sign"]
def M_is_value : MSs := (.cons (.ite (.or_ (.isN (.nm 0)) (.call 0 (.cons (.nm 0) .nil))) (.cons (.ret (.k (.bool true))) .nil) .nil) (.cons (.ret (.and_ (.isi (.nm 0) .str) (.and_ (.cmp .lt (.b1 .len (.nm 0)) (.k (.int 13))) (.b1 .all (.comp (.cmp .isin (.nm 1) (.k (.str "abcdefghijklmnopqrstuvwxyzABCDEFGHIJKLMNOPQRSTUVWXYZ0123456789 -_"))) (.nm 1) (.seq (.nm 0)) .nil [1]))))) .nil))
theorem T_is_value : TrSs (pureL F_01) gkL false N_is_value (defScope t_is_value) (defBody t_is_value) M_is_value := (.cons (.ite (.bo (o := .Or) (.cons (.isN (.nm rfl (.inl (by decide +kernel)) (by decide +kernel) (by decide +kernel))) (.one (.call 0 (by decide +kernel) rfl rfl (by decide +kernel) (.cons (.nm rfl (.inl (by decide +kernel)) (by decide +kernel) (by decide +kernel)) .nil))))) (.cons (.ret .cb) .nil) .nil) (.cons (.ret (.bo (o := .And) (.cons (.isi .str (by decide +kernel) (by decide +kernel) (.nm rfl (.inl (by decide +kernel)) (by decide +kernel) (by decide +kernel))) (.cons (.cmp .lt (.b1 .len (by decide +kernel) (.nm rfl (.inl (by decide +kernel)) (by decide +kernel) (by decide +kernel))) .ci rfl) (.one (.b1 .all (by decide +kernel) (.comp (own := [("sign", 1)]) (by decide +kernel) (.nm rfl (.inl (by decide +kernel)) (.inr (by decide +kernel))) (by decide +kernel) (.seq (.nm rfl (.inl (by decide +kernel)) (by decide +kernel) (by decide +kernel))) .nil (.cmp .isin (.nm rfl (.inl (by decide +kernel)) (by decide +kernel) (by decide +kernel)) (.gl (by decide +kernel) (by simp [gkL]) (by decide +kernel) rfl) rfl) (fun _ _ => rfl)))))))) .nil))
def E_is_value : FE := ⟨"is_value", 1, semOf (pureL F_01) false 2 M_is_value, false, true⟩
theorem S_is_value : FnScope N_is_value ["value"] (defScope t_is_value) := ⟨rfl, rfl, rfl, by decide +kernel, rfl, by decide +kernel, by decide +kernel⟩
def F_02 : List FE := F_01 ++ [E_is_value]
theorem A_is_value : E_is_value.ar = 1 := rfl
/-! rank -/
def N_rank : List Str := ["value"]
def M_rank : MSs := (.cons (.ite (.isN (.nm 0)) (.cons (.ret (.tup (.cons (.k (.int 0)) .nil))) .nil) .nil) (.cons (.ret (.ite (.isi (.nm 0) .str) (.tup (.cons (.k (.int 2)) (.cons (.nm 0) .nil))) (.tup (.cons (.k (.int 1)) (.cons (.nm 0) .nil))))) .nil))
theorem T_rank : TrSs (pureL F_02) gkL false N_rank (defScope t_rank) (defBody t_rank) M_rank := (.cons (.ite (.isN (.nm rfl (.inl (by decide +kernel)) (by decide +kernel) (by decide +kernel))) (.cons (.ret (.tup (.cons .ci .nil))) .nil) .nil) (.cons (.ret (.ite (.isi .str (by decide +kernel) (by decide +kernel) (.nm rfl (.inl (by decide +kernel)) (by decide +kernel) (by decide +kernel))) (.tup (.cons .ci (.cons (.nm rfl (.inl (by decide +kernel)) (by decide +kernel) (by decide +kernel)) .nil))) (.tup (.cons .ci (.cons (.nm rfl (.inl (by decide +kernel)) (by decide +kernel) (by decide +kernel)) .nil))))) .nil))
def E_rank : FE := ⟨"rank", 1, semOf (pureL F_02) false 1 M_rank, false, true⟩
theorem S_rank : FnScope N_rank ["value"] (defScope t_rank) := ⟨rfl, rfl, rfl, by decide +kernel, rfl, by decide +kernel, by decide +kernel⟩
def F_03 : List FE := F_02 ++ [E_rank]
theorem A_rank : E_rank.ar = 1 := rfl
/-! is_how -/
def N_is_how : List Str := ["value"]
def M_is_how : MSs := (.cons (.ret (.and_ (.isi (.nm 0) .str) (.inG (.nm 0) [.str "count", .str "sum", .str "least", .str "greatest"]))) .nil)
theorem T_is_how : TrSs (pureL F_03) gkL false N_is_how (defScope t_is_how) (defBody t_is_how) M_is_how := (.cons (.ret (.bo (o := .And) (.cons (.isi .str (by decide +kernel) (by decide +kernel) (.nm rfl (.inl (by decide +kernel)) (by decide +kernel) (by decide +kernel))) (.one (.inG (.nm rfl (.inl (by decide +kernel)) (by decide +kernel) (by decide +kernel)) (by decide +kernel) (by simp [gkL]) (by decide +kernel)))))) .nil)
def E_is_how : FE := ⟨"is_how", 1, semOf (pureL F_03) false 1 M_is_how, false, true⟩
theorem S_is_how : FnScope N_is_how ["value"] (defScope t_is_how) := ⟨rfl, rfl, rfl, by decide +kernel, rfl, by decide +kernel, by decide +kernel⟩
def F_04 : List FE := F_03 ++ [E_is_how]
theorem A_is_how : E_is_how.ar = 1 := rfl
/-! is_integer -/
def N_is_integer_sums : List Str := ["value"]
def M_is_integer_sums : MSs := (.cons (.ret (.and_ (.isi (.nm 0) .int) (.not_ (.isi (.nm 0) .bool)))) .nil)
theorem T_is_integer_sums : TrSs (pureL F_04) gkL false N_is_integer_sums (defScope t_is_integer_sums) (defBody t_is_integer_sums) M_is_integer_sums := (.cons (.ret (.bo (o := .And) (.cons (.isi .int (by decide +kernel) (by decide +kernel) (.nm rfl (.inl (by decide +kernel)) (by decide +kernel) (by decide +kernel))) (.one (.not_ (.isi .bool (by decide +kernel) (by decide +kernel) (.nm rfl (.inl (by decide +kernel)) (by decide +kernel) (by decide +kernel)))))))) .nil)
def E_is_integer_sums : FE := ⟨"is_integer_sums", 1, semOf (pureL F_04) false 1 M_is_integer_sums, false, true⟩
theorem S_is_integer_sums : FnScope N_is_integer_sums ["value"] (defScope t_is_integer_sums) := ⟨rfl, rfl, rfl, by decide +kernel, rfl, by decide +kernel, by decide +kernel⟩
def F_05 : List FE := F_04 ++ [E_is_integer_sums]
theorem A_is_integer_sums : E_is_integer_sums.ar = 1 := rfl
/-! is_tally -/
def N_is_tally : List Str := ["how", "value", "pair", "given", "n", "one", "other"]
def M_is_tally : MSs := (.cons (.ite (.cmp .isin (.nm 0) (.tup (.cons (.k (.str "count")) (.cons (.k (.str "sum")) .nil)))) (.cons (.ret (.call 4 (.cons (.nm 1) .nil))) .nil) .nil) (.cons (.ite (.or_ (.not_ (.isi (.nm 1) .tuple)) (.not_ (.b1 .all (.comp (.and_ (.isi (.nm 2) .tuple) (.cmp .eq (.b1 .len (.nm 2)) (.k (.int 2)))) (.nm 2) (.seq (.nm 1)) .nil [2])))) (.cons (.ret (.k (.bool false))) .nil) .nil) (.cons (.ite (.not_ (.b1 .all (.comp (.and_ (.call 1 (.cons (.nm 3) .nil)) (.and_ (.notN (.nm 3)) (.and_ (.call 4 (.cons (.nm 4) .nil)) (.cmp .ne (.nm 4) (.k (.int 0)))))) (.two (.nm 3) (.nm 4)) (.seq (.nm 1)) .nil [3, 4]))) (.cons (.ret (.k (.bool false))) .nil) .nil) (.cons (.ret (.b1 .all (.comp (.cmp .lt (.call 2 (.cons (.idx (.nm 5) (.k (.int 0))) .nil)) (.call 2 (.cons (.idx (.nm 6) (.k (.int 0))) .nil))) (.two (.nm 5) (.nm 6)) (.zip (.nm 1) (.slc (.nm 1) (.yes (.k (.int 1))) .no)) .nil [5, 6]))) .nil))))
theorem T_is_tally : TrSs (pureL F_05) gkL false N_is_tally (defScope t_is_tally) (defBody t_is_tally) M_is_tally := (.cons (.ite (.cmp .isin (.nm rfl (.inl (by decide +kernel)) (by decide +kernel) (by decide +kernel)) (.tup (.cons .cs (.cons .cs .nil))) rfl) (.cons (.ret (.call 4 (by decide +kernel) rfl rfl (by decide +kernel) (.cons (.nm rfl (.inl (by decide +kernel)) (by decide +kernel) (by decide +kernel)) .nil))) .nil) .nil) (.cons (.ite (.bo (o := .Or) (.cons (.not_ (.isi .tuple (by decide +kernel) (by decide +kernel) (.nm rfl (.inl (by decide +kernel)) (by decide +kernel) (by decide +kernel)))) (.one (.not_ (.b1 .all (by decide +kernel) (.comp (own := [("pair", 2)]) (by decide +kernel) (.nm rfl (.inl (by decide +kernel)) (.inr (by decide +kernel))) (by decide +kernel) (.seq (.nm rfl (.inl (by decide +kernel)) (by decide +kernel) (by decide +kernel))) .nil (.bo (o := .And) (.cons (.isi .tuple (by decide +kernel) (by decide +kernel) (.nm rfl (.inl (by decide +kernel)) (by decide +kernel) (by decide +kernel))) (.one (.cmp .eq (.b1 .len (by decide +kernel) (.nm rfl (.inl (by decide +kernel)) (by decide +kernel) (by decide +kernel))) .ci rfl)))) (fun _ _ => rfl))))))) (.cons (.ret .cb) .nil) .nil) (.cons (.ite (.not_ (.b1 .all (by decide +kernel) (.comp (own := [("given", 3), ("n", 4)]) (by decide +kernel) (.two (.nm rfl (.inl (by decide +kernel)) (.inr (by decide +kernel))) (.nm rfl (.inl (by decide +kernel)) (.inr (by decide +kernel)))) (by decide +kernel) (.seq (.nm rfl (.inl (by decide +kernel)) (by decide +kernel) (by decide +kernel))) .nil (.bo (o := .And) (.cons (.call 1 (by decide +kernel) rfl rfl (by decide +kernel) (.cons (.nm rfl (.inl (by decide +kernel)) (by decide +kernel) (by decide +kernel)) .nil)) (.cons (.notN (.nm rfl (.inl (by decide +kernel)) (by decide +kernel) (by decide +kernel))) (.cons (.call 4 (by decide +kernel) rfl rfl (by decide +kernel) (.cons (.nm rfl (.inl (by decide +kernel)) (by decide +kernel) (by decide +kernel)) .nil)) (.one (.cmp .ne (.nm rfl (.inl (by decide +kernel)) (by decide +kernel) (by decide +kernel)) .ci rfl)))))) (fun _ _ => rfl)))) (.cons (.ret .cb) .nil) .nil) (.cons (.ret (.b1 .all (by decide +kernel) (.comp (own := [("one", 5), ("other", 6)]) (by decide +kernel) (.two (.nm rfl (.inl (by decide +kernel)) (.inr (by decide +kernel))) (.nm rfl (.inl (by decide +kernel)) (.inr (by decide +kernel)))) (by decide +kernel) (.zip (by decide +kernel) (.nm rfl (.inl (by decide +kernel)) (by decide +kernel) (by decide +kernel)) (.slc (.nm rfl (.inl (by decide +kernel)) (by decide +kernel) (by decide +kernel)) (.yes .ci) .no)) .nil (.cmp .lt (.call 2 (by decide +kernel) rfl rfl (by decide +kernel) (.cons (.idx (.nm rfl (.inl (by decide +kernel)) (by decide +kernel) (by decide +kernel)) .ci (fun _ _ => rfl)) .nil)) (.call 2 (by decide +kernel) rfl rfl (by decide +kernel) (.cons (.idx (.nm rfl (.inl (by decide +kernel)) (by decide +kernel) (by decide +kernel)) .ci (fun _ _ => rfl)) .nil)) rfl) (fun _ _ => rfl)))) .nil))))
def E_is_tally : FE := ⟨"is_tally", 2, semOf (pureL F_05) false 7 M_is_tally, false, true⟩
theorem S_is_tally : FnScope N_is_tally ["how", "value"] (defScope t_is_tally) := ⟨rfl, rfl, rfl, by decide +kernel, rfl, by decide +kernel, by decide +kernel⟩
def F_06 : List FE := F_05 ++ [E_is_tally]
theorem A_is_tally : E_is_tally.ar = 2 := rfl
/-! empty -/
def N_empty : List Str := ["how"]
def M_empty : MSs := (.cons (.ret (.ite (.cmp .isin (.nm 0) (.tup (.cons (.k (.str "count")) (.cons (.k (.str "sum")) .nil)))) (.k (.int 0)) (.tup .nil))) .nil)
theorem T_empty : TrSs (pureL F_06) gkL false N_empty (defScope t_empty) (defBody t_empty) M_empty := (.cons (.ret (.ite (.cmp .isin (.nm rfl (.inl (by decide +kernel)) (by decide +kernel) (by decide +kernel)) (.tup (.cons .cs (.cons .cs .nil))) rfl) .ci (.tup .nil))) .nil)
def E_empty : FE := ⟨"empty", 1, semOf (pureL F_06) false 1 M_empty, false, true⟩
theorem S_empty : FnScope N_empty ["how"] (defScope t_empty) := ⟨rfl, rfl, rfl, by decide +kernel, rfl, by decide +kernel, by decide +kernel⟩
def F_07 : List FE := F_06 ++ [E_empty]
theorem A_empty : E_empty.ar = 1 := rfl
/-! listed -/
def N_listed : List Str := ["found", "given"]
def M_listed : MSs := (.cons (.ret (.b1 .tuple (.comp (.tup (.cons (.nm 1) (.cons (.idx (.nm 0) (.nm 1)) .nil))) (.nm 1) (.seq (.sortK 2 (.nm 0))) (.cons (.cmp .ne (.idx (.nm 0) (.nm 1)) (.k (.int 0))) .nil) [1]))) .nil)
theorem T_listed : TrSs (pureL F_07) gkL false N_listed (defScope t_listed) (defBody t_listed) M_listed := (.cons (.ret (.b1 .tuple (by decide +kernel) (.comp (own := [("given", 1)]) (by decide +kernel) (.nm rfl (.inl (by decide +kernel)) (.inr (by decide +kernel))) (by decide +kernel) (.seq (.sortK 2 (by decide +kernel) (by decide +kernel) rfl rfl (by decide +kernel) (.nm rfl (.inr (.inl (by decide +kernel))) (by decide +kernel) (by decide +kernel)))) (.one (.cmp .ne (.idx (.nm rfl (.inr (.inl (by decide +kernel))) (by decide +kernel) (by decide +kernel)) (.nm rfl (.inl (by decide +kernel)) (by decide +kernel) (by decide +kernel)) (fun _ _ => rfl)) .ci rfl)) (.tup (.cons (.nm rfl (.inl (by decide +kernel)) (by decide +kernel) (by decide +kernel)) (.cons (.idx (.nm rfl (.inr (.inl (by decide +kernel))) (by decide +kernel) (by decide +kernel)) (.nm rfl (.inl (by decide +kernel)) (by decide +kernel) (by decide +kernel)) (fun _ _ => rfl)) .nil))) (fun _ _ => rfl)))) .nil)
def E_listed : FE := ⟨"listed", 1, semOf (pureL F_07) false 2 M_listed, false, true⟩
theorem S_listed : FnScope N_listed ["found"] (defScope t_listed) := ⟨rfl, rfl, rfl, by decide +kernel, rfl, by decide +kernel, by decide +kernel⟩
def F_08 : List FE := F_07 ++ [E_listed]
theorem A_listed : E_listed.ar = 1 := rfl
/-! add -/
def N_add : List Str := ["how", "tally", "given", "sign", "found"]
def M_add : MSs := (.cons (.ite (.cmp .eq (.nm 0) (.k (.str "count"))) (.cons (.ret (.op .add (.nm 1) (.nm 3))) .nil) .nil) (.cons (.ite (.isN (.nm 2)) (.cons (.ret (.nm 1)) .nil) .nil) (.cons (.ite (.cmp .eq (.nm 0) (.k (.str "sum"))) (.cons (.ret (.op .add (.nm 1) (.op .mul (.nm 3) (.nm 2)))) .nil) .nil) (.cons (.set 4 .o (.b1 .dict (.nm 1))) (.cons (.dput 4 .i (.nm 2) (.op .add (.m2 .get (.nm 4) (.nm 2) (.k (.int 0))) (.nm 3))) (.cons (.ret (.call 7 (.cons (.nm 4) .nil))) .nil))))))
theorem T_add : TrSs (pureL F_08) gkL false N_add (defScope t_add) (defBody t_add) M_add := (.cons (.ite (.cmp .eq (.nm rfl (.inl (by decide +kernel)) (by decide +kernel) (by decide +kernel)) .cs rfl) (.cons (.ret (.op .add (.nm rfl (.inl (by decide +kernel)) (by decide +kernel) (by decide +kernel)) (.nm rfl (.inl (by decide +kernel)) (by decide +kernel) (by decide +kernel)))) .nil) .nil) (.cons (.ite (.isN (.nm rfl (.inl (by decide +kernel)) (by decide +kernel) (by decide +kernel))) (.cons (.ret (.nm rfl (.inl (by decide +kernel)) (by decide +kernel) (by decide +kernel))) .nil) .nil) (.cons (.ite (.cmp .eq (.nm rfl (.inl (by decide +kernel)) (by decide +kernel) (by decide +kernel)) .cs rfl) (.cons (.ret (.op .add (.nm rfl (.inl (by decide +kernel)) (by decide +kernel) (by decide +kernel)) (.op .mul (.nm rfl (.inl (by decide +kernel)) (by decide +kernel) (by decide +kernel)) (.nm rfl (.inl (by decide +kernel)) (by decide +kernel) (by decide +kernel))))) .nil) .nil) (.cons (.set .o rfl (.inl (by decide +kernel)) (.b1 .dict (by decide +kernel) (.nm rfl (.inl (by decide +kernel)) (by decide +kernel) (by decide +kernel))) (fun _ => rfl)) (.cons (.dput .i rfl (.inl (by decide +kernel)) (by decide +kernel) (by decide +kernel) (.nm rfl (.inl (by decide +kernel)) (by decide +kernel) (by decide +kernel)) (.op .add (.m2 .get (.nm rfl (.inl (by decide +kernel)) (by decide +kernel) (by decide +kernel)) (.nm rfl (.inl (by decide +kernel)) (by decide +kernel) (by decide +kernel)) .ci (fun _ => rfl) rfl) (.nm rfl (.inl (by decide +kernel)) (by decide +kernel) (by decide +kernel))) ⟨fun _ _ => rfl, fun _ => rfl, fun _ => rfl, fun _ => rfl⟩) (.cons (.ret (.call 7 (by decide +kernel) rfl rfl (by decide +kernel) (.cons (.nm rfl (.inl (by decide +kernel)) (by decide +kernel) (by decide +kernel)) .nil))) .nil))))))
def E_add : FE := ⟨"add", 4, semOf (pureL F_08) false 5 M_add, false, true⟩
theorem S_add : FnScope N_add ["how", "tally", "given", "sign"] (defScope t_add) := ⟨rfl, rfl, rfl, by decide +kernel, rfl, by decide +kernel, by decide +kernel⟩
def F_09 : List FE := F_08 ++ [E_add]
theorem A_add : E_add.ar = 4 := rfl
/-! add_all -/
def N_add_all : List Str := ["how", "tally", "pairs", "given", "sign"]
def M_add_all_1 : MSs := (.cons (.set 1 .f (.call 8 (.cons (.nm 0) (.cons (.nm 1) (.cons (.nm 3) (.cons (.nm 4) .nil)))))) .nil)
def M_add_all : MSs := (.cons (.for_ (.two (.nm 3) (.nm 4)) (.seq (.nm 2)) M_add_all_1) (.cons (.ret (.nm 1)) .nil))
theorem T_add_all : TrSs (pureL F_09) gkL false N_add_all (defScope t_add_all) (defBody t_add_all) M_add_all := (.cons (.for_ (.two (.nm rfl (.inl (by decide +kernel)) (.inl rfl)) (.nm rfl (.inl (by decide +kernel)) (.inl rfl))) (.seq (.nm rfl (.inl (by decide +kernel)) (by decide +kernel) (by decide +kernel))) (.cons (.set .f rfl (.inl (by decide +kernel)) (.call 8 (by decide +kernel) rfl rfl (by decide +kernel) (.cons (.nm rfl (.inl (by decide +kernel)) (by decide +kernel) (by decide +kernel)) (.cons (.nm rfl (.inl (by decide +kernel)) (by decide +kernel) (by decide +kernel)) (.cons (.nm rfl (.inl (by decide +kernel)) (by decide +kernel) (by decide +kernel)) (.cons (.nm rfl (.inl (by decide +kernel)) (by decide +kernel) (by decide +kernel)) .nil))))) (fun _ => rfl)) .nil) (fun _ _ => rfl)) (.cons (.ret (.nm rfl (.inl (by decide +kernel)) (by decide +kernel) (by decide +kernel))) .nil))
def E_add_all : FE := ⟨"add_all", 3, semOf (pureL F_09) false 5 M_add_all, false, true⟩
theorem S_add_all : FnScope N_add_all ["how", "tally", "pairs"] (defScope t_add_all) := ⟨rfl, rfl, rfl, by decide +kernel, rfl, by decide +kernel, by decide +kernel⟩
def F_10 : List FE := F_09 ++ [E_add_all]
theorem A_add_all : E_add_all.ar = 3 := rfl
/-! joined -/
def N_joined : List Str := ["how", "one", "other", "times", "found", "given", "n"]
def M_joined_1 : MSs := (.cons (.dput 4 .i (.nm 5) (.op .add (.m2 .get (.nm 4) (.nm 5) (.k (.int 0))) (.op .mul (.nm 3) (.nm 6)))) .nil)
def M_joined : MSs := (.cons (.ite (.cmp .isin (.nm 0) (.tup (.cons (.k (.str "count")) (.cons (.k (.str "sum")) .nil)))) (.cons (.ret (.op .add (.nm 1) (.op .mul (.nm 3) (.nm 2)))) .nil) .nil) (.cons (.set 4 .o (.b1 .dict (.nm 1))) (.cons (.for_ (.two (.nm 5) (.nm 6)) (.seq (.nm 2)) M_joined_1) (.cons (.ret (.call 7 (.cons (.nm 4) .nil))) .nil))))
theorem T_joined : TrSs (pureL F_10) gkL false N_joined (defScope t_joined) (defBody t_joined) M_joined := (.cons (.ite (.cmp .isin (.nm rfl (.inl (by decide +kernel)) (by decide +kernel) (by decide +kernel)) (.tup (.cons .cs (.cons .cs .nil))) rfl) (.cons (.ret (.op .add (.nm rfl (.inl (by decide +kernel)) (by decide +kernel) (by decide +kernel)) (.op .mul (.nm rfl (.inl (by decide +kernel)) (by decide +kernel) (by decide +kernel)) (.nm rfl (.inl (by decide +kernel)) (by decide +kernel) (by decide +kernel))))) .nil) .nil) (.cons (.set .o rfl (.inl (by decide +kernel)) (.b1 .dict (by decide +kernel) (.nm rfl (.inl (by decide +kernel)) (by decide +kernel) (by decide +kernel))) (fun _ => rfl)) (.cons (.for_ (.two (.nm rfl (.inl (by decide +kernel)) (.inl rfl)) (.nm rfl (.inl (by decide +kernel)) (.inl rfl))) (.seq (.nm rfl (.inl (by decide +kernel)) (by decide +kernel) (by decide +kernel))) (.cons (.dput .i rfl (.inl (by decide +kernel)) (by decide +kernel) (by decide +kernel) (.nm rfl (.inl (by decide +kernel)) (by decide +kernel) (by decide +kernel)) (.op .add (.m2 .get (.nm rfl (.inl (by decide +kernel)) (by decide +kernel) (by decide +kernel)) (.nm rfl (.inl (by decide +kernel)) (by decide +kernel) (by decide +kernel)) .ci (fun _ => rfl) rfl) (.op .mul (.nm rfl (.inl (by decide +kernel)) (by decide +kernel) (by decide +kernel)) (.nm rfl (.inl (by decide +kernel)) (by decide +kernel) (by decide +kernel)))) ⟨fun _ _ => rfl, fun _ => rfl, fun _ => rfl, fun _ => rfl⟩) .nil) (fun _ _ => rfl)) (.cons (.ret (.call 7 (by decide +kernel) rfl rfl (by decide +kernel) (.cons (.nm rfl (.inl (by decide +kernel)) (by decide +kernel) (by decide +kernel)) .nil))) .nil))))
def E_joined : FE := ⟨"joined", 4, semOf (pureL F_10) false 7 M_joined, false, true⟩
theorem S_joined : FnScope N_joined ["how", "one", "other", "times"] (defScope t_joined) := ⟨rfl, rfl, rfl, by decide +kernel, rfl, by decide +kernel, by decide +kernel⟩
def F_11 : List FE := F_10 ++ [E_joined]
theorem A_joined : E_joined.ar = 4 := rfl
/-! both -/
def N_both : List Str := ["how", "one", "other"]
def M_both : MSs := (.cons (.ret (.call 10 (.cons (.nm 0) (.cons (.nm 1) (.cons (.nm 2) (.cons (.k (.int 1)) .nil)))))) .nil)
theorem T_both : TrSs (pureL F_11) gkL false N_both (defScope t_both) (defBody t_both) M_both := (.cons (.ret (.call 10 (by decide +kernel) rfl rfl (by decide +kernel) (.cons (.nm rfl (.inl (by decide +kernel)) (by decide +kernel) (by decide +kernel)) (.cons (.nm rfl (.inl (by decide +kernel)) (by decide +kernel) (by decide +kernel)) (.cons (.nm rfl (.inl (by decide +kernel)) (by decide +kernel) (by decide +kernel)) (.cons .ci .nil)))))) .nil)
def E_both : FE := ⟨"both", 3, semOf (pureL F_11) false 3 M_both, false, true⟩
theorem S_both : FnScope N_both ["how", "one", "other"] (defScope t_both) := ⟨rfl, rfl, rfl, by decide +kernel, rfl, by decide +kernel, by decide +kernel⟩
def F_12 : List FE := F_11 ++ [E_both]
theorem A_both : E_both.ar = 3 := rfl
/-! less -/
def N_less : List Str := ["how", "one", "other"]
def M_less : MSs := (.cons (.ret (.call 10 (.cons (.nm 0) (.cons (.nm 1) (.cons (.nm 2) (.cons (.neg (.k (.int 1))) .nil)))))) .nil)
theorem T_less : TrSs (pureL F_12) gkL false N_less (defScope t_less) (defBody t_less) M_less := (.cons (.ret (.call 10 (by decide +kernel) rfl rfl (by decide +kernel) (.cons (.nm rfl (.inl (by decide +kernel)) (by decide +kernel) (by decide +kernel)) (.cons (.nm rfl (.inl (by decide +kernel)) (by decide +kernel) (by decide +kernel)) (.cons (.nm rfl (.inl (by decide +kernel)) (by decide +kernel) (by decide +kernel)) (.cons (.neg .ci) .nil)))))) .nil)
def E_less : FE := ⟨"less", 3, semOf (pureL F_12) false 3 M_less, false, true⟩
theorem S_less : FnScope N_less ["how", "one", "other"] (defScope t_less) := ⟨rfl, rfl, rfl, by decide +kernel, rfl, by decide +kernel, by decide +kernel⟩
def F_13 : List FE := F_12 ++ [E_less]
theorem A_less : E_less.ar = 3 := rfl
/-! tell -/
def N_tell : List Str := ["how", "tally", "there", "given", "n"]
def M_tell : MSs := (.cons (.ite (.cmp .isin (.nm 0) (.tup (.cons (.k (.str "count")) (.cons (.k (.str "sum")) .nil)))) (.cons (.ret (.nm 1)) .nil) .nil) (.cons (.set 2 .f (.comp (.nm 3) (.two (.nm 3) (.nm 4)) (.seq (.nm 1)) (.cons (.cmp .gt (.nm 4) (.k (.int 0))) .nil) [3, 4])) (.cons (.ite (.not_ (.nm 2)) (.cons (.ret (.k .none)) .nil) .nil) (.cons (.ret (.ite (.cmp .eq (.nm 0) (.k (.str "least"))) (.idx (.nm 2) (.k (.int 0))) (.idx (.nm 2) (.neg (.k (.int 1)))))) .nil))))
theorem T_tell : TrSs (pureL F_13) gkL false N_tell (defScope t_tell) (defBody t_tell) M_tell := (.cons (.ite (.cmp .isin (.nm rfl (.inl (by decide +kernel)) (by decide +kernel) (by decide +kernel)) (.tup (.cons .cs (.cons .cs .nil))) rfl) (.cons (.ret (.nm rfl (.inl (by decide +kernel)) (by decide +kernel) (by decide +kernel))) .nil) .nil) (.cons (.setL .f rfl (by decide +kernel) (.comp (own := [("given", 3), ("n", 4)]) (by decide +kernel) (.two (.nm rfl (.inl (by decide +kernel)) (.inr (by decide +kernel))) (.nm rfl (.inl (by decide +kernel)) (.inr (by decide +kernel)))) (by decide +kernel) (.seq (.nm rfl (.inl (by decide +kernel)) (by decide +kernel) (by decide +kernel))) (.one (.cmp .gt (.nm rfl (.inl (by decide +kernel)) (by decide +kernel) (by decide +kernel)) .ci rfl)) (.nm rfl (.inl (by decide +kernel)) (by decide +kernel) (by decide +kernel)) (fun _ _ => rfl)) rfl (by decide +kernel) (by decide)) (.cons (.ite (.not_ (.nm rfl (.inl (by decide +kernel)) (by decide +kernel) (by decide +kernel))) (.cons (.ret .cn) .nil) .nil) (.cons (.ret (.ite (.cmp .eq (.nm rfl (.inl (by decide +kernel)) (by decide +kernel) (by decide +kernel)) .cs rfl) (.idx (.nm rfl (.inl (by decide +kernel)) (by decide +kernel) (by decide +kernel)) .ci (fun _ _ => rfl)) (.idx (.nm rfl (.inl (by decide +kernel)) (by decide +kernel) (by decide +kernel)) (.neg .ci) (fun _ _ => rfl)))) .nil))))
def E_tell : FE := ⟨"tell", 2, semOf (pureL F_13) false 5 M_tell, false, true⟩
theorem S_tell : FnScope N_tell ["how", "tally"] (defScope t_tell) := ⟨rfl, rfl, rfl, by decide +kernel, rfl, by decide +kernel, by decide +kernel⟩
def F_14 : List FE := F_13 ++ [E_tell]
theorem A_tell : E_tell.ar = 2 := rfl
/-! _law_rank -/
def N_w_rank : List Str := ["_law_value"]
def M_w_rank : MSs := (.cons (.ite (.isN (.nm 0)) (.cons (.ret (.tup (.cons (.k (.int 0)) (.cons (.k (.int 0)) (.cons (.k (.str "")) .nil))))) .nil) .nil) (.cons (.ret (.ite (.isi (.nm 0) .int) (.tup (.cons (.k (.int 1)) (.cons (.nm 0) (.cons (.k (.str "")) .nil)))) (.tup (.cons (.k (.int 2)) (.cons (.k (.int 0)) (.cons (.nm 0) .nil)))))) .nil))
theorem T_w_rank : TrSs (pureL F_14) gkL false N_w_rank (defScope t_w_rank) (defBody t_w_rank) M_w_rank := (.cons (.ite (.isN (.nm rfl (.inl (by decide +kernel)) (by decide +kernel) (by decide +kernel))) (.cons (.ret (.tup (.cons .ci (.cons .ci (.cons .cs .nil))))) .nil) .nil) (.cons (.ret (.ite (.isi .int (by decide +kernel) (by decide +kernel) (.nm rfl (.inl (by decide +kernel)) (by decide +kernel) (by decide +kernel))) (.tup (.cons .ci (.cons (.nm rfl (.inl (by decide +kernel)) (by decide +kernel) (by decide +kernel)) (.cons .cs .nil)))) (.tup (.cons .ci (.cons .ci (.cons (.nm rfl (.inl (by decide +kernel)) (by decide +kernel) (by decide +kernel)) .nil)))))) .nil))
def E_w_rank : FE := ⟨"_law_rank", 1, semOf (pureL F_14) false 1 M_w_rank, false, true⟩
theorem S_w_rank : FnScope N_w_rank ["_law_value"] (defScope t_w_rank) := ⟨rfl, rfl, rfl, by decide +kernel, rfl, by decide +kernel, by decide +kernel⟩
def F_15 : List FE := F_14 ++ [E_w_rank]
theorem A_w_rank : E_w_rank.ar = 1 := rfl
/-! _law_open_cells -/
def N_w_open_cells : List Str := ["_law_script", "_law_stirred", "_law_cell", "_law_cells"]
/-! _law_pick -/
def N_w_pick : List Str := ["_law_source", "_law_most", "_law_cells", "_law_others", "_law_lap", "_law_stirred"]
def F_16 : List FE := F_15 ++ [pickF]
theorem A_w_pick : FE.ar pickF = 2 := rfl
/-! _law_any_order -/
def N_w_any_order : List Str := ["_law_source", "_law_things", "_law_others", "_law_lap"]
def F_17 : List FE := F_16 ++ [orderF]
theorem A_w_any_order : FE.ar orderF = 2 := rfl
/-! _law_draw_given_value -/
def N_w_draw_given_value : List Str := ["_law_source", "_law_kind"]
def M_w_draw_given_value : MSs := (.cons (.ite (.cmp .eq (.call 15 (.src 0 (.cons (.k (.int 7)) .nil))) (.k (.int 6))) (.cons (.ret (.k .none)) .nil) .nil) (.cons (.ite (.cmp .eq (.nm 1) (.k (.str "number"))) (.cons (.ret (.idx (.lst (.cons (.k (.int 0)) (.cons (.k (.int 1)) (.cons (.k (.int 2)) (.cons (.op .sub (.k (.int 0)) (.k (.int 3))) (.cons (.k (.int 7)) (.cons (.op .pow (.k (.int 10)) (.k (.int 9))) (.cons (.op .sub (.k (.int 0)) (.op .pow (.k (.int 10)) (.k (.int 20)))) (.cons (.k (.int 2)) .nil))))))))) (.call 15 (.src 0 (.cons (.k (.int 8)) .nil))))) .nil) .nil) (.cons (.ret (.idx (.lst (.cons (.k (.str "")) (.cons (.k (.str "a")) (.cons (.k (.str "b")) (.cons (.k (.str "ab")) (.cons (.k (.str "Z-1")) (.cons (.k (.str "a b_c")) .nil))))))) (.call 15 (.src 0 (.cons (.k (.int 6)) .nil))))) .nil)))
theorem T_w_draw_given_value : TrSs (pureL F_17) gkL false N_w_draw_given_value (defScope t_w_draw_given_value) (defBody t_w_draw_given_value) M_w_draw_given_value := (.cons (.ite (.cmp .eq (.call 15 (by decide +kernel) rfl rfl (by decide +kernel) (.src rfl (.inl (by decide +kernel)) (by decide +kernel) (by decide +kernel) (.cons .ci .nil))) .ci rfl) (.cons (.ret .cn) .nil) .nil) (.cons (.ite (.cmp .eq (.nm rfl (.inl (by decide +kernel)) (by decide +kernel) (by decide +kernel)) .cs rfl) (.cons (.ret (.idx (.lst (.cons .ci (.cons .ci (.cons .ci (.cons (.op .sub .ci .ci) (.cons .ci (.cons (.op .pow .ci .ci) (.cons (.op .sub .ci (.op .pow .ci .ci)) (.cons .ci .nil))))))))) (.call 15 (by decide +kernel) rfl rfl (by decide +kernel) (.src rfl (.inl (by decide +kernel)) (by decide +kernel) (by decide +kernel) (.cons .ci .nil))) (fun _ _ => rfl))) .nil) .nil) (.cons (.ret (.idx (.lst (.cons .cs (.cons .cs (.cons .cs (.cons .cs (.cons .cs (.cons .cs .nil))))))) (.call 15 (by decide +kernel) rfl rfl (by decide +kernel) (.src rfl (.inl (by decide +kernel)) (by decide +kernel) (by decide +kernel) (.cons .ci .nil))) (fun _ _ => rfl))) .nil)))
def E_w_draw_given_value : FE := ⟨"_law_draw_given_value", 2, semOf (pureL F_17) false 2 M_w_draw_given_value, false, true⟩
theorem S_w_draw_given_value : FnScope N_w_draw_given_value ["_law_source", "_law_kind"] (defScope t_w_draw_given_value) := ⟨rfl, rfl, rfl, by decide +kernel, rfl, by decide +kernel, by decide +kernel⟩
def F_18 : List FE := F_17 ++ [E_w_draw_given_value]
theorem A_w_draw_given_value : E_w_draw_given_value.ar = 2 := rfl
/-! _law_tally -/
def N_w_tally : List Str := ["_law_how", "_law_pairs", "_law_given", "_law_sign", "_law_some", "_law_net"]
def M_w_tally_1 : MSs := (.cons (.dput 5 .i (.nm 2) (.op .add (.m2 .get (.nm 5) (.nm 2) (.k (.int 0))) (.nm 3))) .nil)
def M_w_tally : MSs := (.cons (.ite (.cmp .eq (.nm 0) (.k (.str "count"))) (.cons (.ret (.b1 .sum (.comp (.nm 3) (.two (.nm 2) (.nm 3)) (.seq (.nm 1)) .nil [2, 3]))) .nil) .nil) (.cons (.par2 4 5 .f .o (.comp (.tup (.cons (.nm 2) (.cons (.nm 3) .nil))) (.two (.nm 2) (.nm 3)) (.seq (.nm 1)) (.cons (.notN (.nm 2)) .nil) [2, 3]) .dict0) (.cons (.ite (.cmp .eq (.nm 0) (.k (.str "sum"))) (.cons (.ret (.b1 .sum (.comp (.op .mul (.nm 3) (.nm 2)) (.two (.nm 2) (.nm 3)) (.seq (.nm 4)) .nil [2, 3]))) .nil) .nil) (.cons (.for_ (.two (.nm 2) (.nm 3)) (.seq (.nm 4)) M_w_tally_1) (.cons (.ret (.b1 .tuple (.comp (.tup (.cons (.nm 2) (.cons (.idx (.nm 5) (.nm 2)) .nil))) (.nm 2) (.seq (.sortK 14 (.nm 5))) (.cons (.cmp .ne (.idx (.nm 5) (.nm 2)) (.k (.int 0))) .nil) [2]))) .nil)))))
theorem T_w_tally : TrSs (pureL F_18) gkL false N_w_tally (defScope t_w_tally) (defBody t_w_tally) M_w_tally := (.cons (.ite (.cmp .eq (.nm rfl (.inl (by decide +kernel)) (by decide +kernel) (by decide +kernel)) .cs rfl) (.cons (.ret (.b1 .sum (by decide +kernel) (.comp (own := [("_law_given", 2), ("_law_sign", 3)]) (by decide +kernel) (.two (.nm rfl (.inl (by decide +kernel)) (.inr (by decide +kernel))) (.nm rfl (.inl (by decide +kernel)) (.inr (by decide +kernel)))) (by decide +kernel) (.seq (.nm rfl (.inl (by decide +kernel)) (by decide +kernel) (by decide +kernel))) .nil (.nm rfl (.inl (by decide +kernel)) (by decide +kernel) (by decide +kernel)) (fun _ _ => rfl)))) .nil) .nil) (.cons (.par2O .f .o rfl rfl (.inl (by decide +kernel)) (.inr (by decide +kernel)) (by decide +kernel) (.comp (own := [("_law_given", 2), ("_law_sign", 3)]) (by decide +kernel) (.two (.nm rfl (.inl (by decide +kernel)) (.inr (by decide +kernel))) (.nm rfl (.inl (by decide +kernel)) (.inr (by decide +kernel)))) (by decide +kernel) (.seq (.nm rfl (.inl (by decide +kernel)) (by decide +kernel) (by decide +kernel))) (.one (.notN (.nm rfl (.inl (by decide +kernel)) (by decide +kernel) (by decide +kernel)))) (.tup (.cons (.nm rfl (.inl (by decide +kernel)) (by decide +kernel) (by decide +kernel)) (.cons (.nm rfl (.inl (by decide +kernel)) (by decide +kernel) (by decide +kernel)) .nil))) (fun _ _ => rfl)) .dict0) (.cons (.ite (.cmp .eq (.nm rfl (.inl (by decide +kernel)) (by decide +kernel) (by decide +kernel)) .cs rfl) (.cons (.ret (.b1 .sum (by decide +kernel) (.comp (own := [("_law_given", 2), ("_law_sign", 3)]) (by decide +kernel) (.two (.nm rfl (.inl (by decide +kernel)) (.inr (by decide +kernel))) (.nm rfl (.inl (by decide +kernel)) (.inr (by decide +kernel)))) (by decide +kernel) (.seq (.nm rfl (.inl (by decide +kernel)) (by decide +kernel) (by decide +kernel))) .nil (.op .mul (.nm rfl (.inl (by decide +kernel)) (by decide +kernel) (by decide +kernel)) (.nm rfl (.inl (by decide +kernel)) (by decide +kernel) (by decide +kernel))) (fun _ _ => rfl)))) .nil) .nil) (.cons (.for_ (.two (.nm rfl (.inl (by decide +kernel)) (.inl rfl)) (.nm rfl (.inl (by decide +kernel)) (.inl rfl))) (.seq (.nm rfl (.inl (by decide +kernel)) (by decide +kernel) (by decide +kernel))) (.cons (.dput .i rfl (.inr (.inl (by decide +kernel))) (by decide +kernel) (by decide +kernel) (.nm rfl (.inl (by decide +kernel)) (by decide +kernel) (by decide +kernel)) (.op .add (.m2 .get (.nm rfl (.inr (.inl (by decide +kernel))) (by decide +kernel) (by decide +kernel)) (.nm rfl (.inl (by decide +kernel)) (by decide +kernel) (by decide +kernel)) .ci (fun _ => rfl) rfl) (.nm rfl (.inl (by decide +kernel)) (by decide +kernel) (by decide +kernel))) ⟨fun _ _ => rfl, fun _ => rfl, fun _ => rfl, fun _ => rfl⟩) .nil) (fun _ _ => rfl)) (.cons (.ret (.b1 .tuple (by decide +kernel) (.comp (own := [("_law_given", 2)]) (by decide +kernel) (.nm rfl (.inl (by decide +kernel)) (.inr (by decide +kernel))) (by decide +kernel) (.seq (.sortK 14 (by decide +kernel) (by decide +kernel) rfl rfl (by decide +kernel) (.nm rfl (.inr (.inl (by decide +kernel))) (by decide +kernel) (by decide +kernel)))) (.one (.cmp .ne (.idx (.nm rfl (.inr (.inl (by decide +kernel))) (by decide +kernel) (by decide +kernel)) (.nm rfl (.inl (by decide +kernel)) (by decide +kernel) (by decide +kernel)) (fun _ _ => rfl)) .ci rfl)) (.tup (.cons (.nm rfl (.inl (by decide +kernel)) (by decide +kernel) (by decide +kernel)) (.cons (.idx (.nm rfl (.inr (.inl (by decide +kernel))) (by decide +kernel) (by decide +kernel)) (.nm rfl (.inl (by decide +kernel)) (by decide +kernel) (by decide +kernel)) (fun _ _ => rfl)) .nil))) (fun _ _ => rfl)))) .nil)))))
def E_w_tally : FE := ⟨"_law_tally", 2, semOf (pureL F_18) false 6 M_w_tally, false, true⟩
theorem S_w_tally : FnScope N_w_tally ["_law_how", "_law_pairs"] (defScope t_w_tally) := ⟨rfl, rfl, rfl, by decide +kernel, rfl, by decide +kernel, by decide +kernel⟩
def F_19 : List FE := F_18 ++ [E_w_tally]
theorem A_w_tally : E_w_tally.ar = 2 := rfl
/-! _law_tell -/
def N_w_tell : List Str := ["_law_how", "_law_tally_here", "_law_there", "_law_given", "_law_n"]
def M_w_tell : MSs := (.cons (.ite (.cmp .isin (.nm 0) (.tup (.cons (.k (.str "count")) (.cons (.k (.str "sum")) .nil)))) (.cons (.ret (.nm 1)) .nil) .nil) (.cons (.set 2 .f (.comp (.nm 3) (.two (.nm 3) (.nm 4)) (.seq (.nm 1)) (.cons (.cmp .gt (.nm 4) (.k (.int 0))) .nil) [3, 4])) (.cons (.ret (.ite (.cmp .eq (.nm 2) (.lst .nil)) (.k .none) (.idx (.nm 2) (.ite (.cmp .eq (.nm 0) (.k (.str "least"))) (.k (.int 0)) (.op .sub (.b1 .len (.nm 2)) (.k (.int 1))))))) .nil)))
theorem T_w_tell : TrSs (pureL F_19) gkL false N_w_tell (defScope t_w_tell) (defBody t_w_tell) M_w_tell := (.cons (.ite (.cmp .isin (.nm rfl (.inl (by decide +kernel)) (by decide +kernel) (by decide +kernel)) (.tup (.cons .cs (.cons .cs .nil))) rfl) (.cons (.ret (.nm rfl (.inl (by decide +kernel)) (by decide +kernel) (by decide +kernel))) .nil) .nil) (.cons (.setL .f rfl (by decide +kernel) (.comp (own := [("_law_given", 3), ("_law_n", 4)]) (by decide +kernel) (.two (.nm rfl (.inl (by decide +kernel)) (.inr (by decide +kernel))) (.nm rfl (.inl (by decide +kernel)) (.inr (by decide +kernel)))) (by decide +kernel) (.seq (.nm rfl (.inl (by decide +kernel)) (by decide +kernel) (by decide +kernel))) (.one (.cmp .gt (.nm rfl (.inl (by decide +kernel)) (by decide +kernel) (by decide +kernel)) .ci rfl)) (.nm rfl (.inl (by decide +kernel)) (by decide +kernel) (by decide +kernel)) (fun _ _ => rfl)) rfl (by decide +kernel) (by decide)) (.cons (.ret (.ite (.cmp .eq (.nm rfl (.inl (by decide +kernel)) (by decide +kernel) (by decide +kernel)) (.lst .nil) rfl) .cn (.idx (.nm rfl (.inl (by decide +kernel)) (by decide +kernel) (by decide +kernel)) (.ite (.cmp .eq (.nm rfl (.inl (by decide +kernel)) (by decide +kernel) (by decide +kernel)) .cs rfl) .ci (.op .sub (.b1 .len (by decide +kernel) (.nm rfl (.inl (by decide +kernel)) (by decide +kernel) (by decide +kernel))) .ci)) (fun _ _ => rfl)))) .nil)))
def E_w_tell : FE := ⟨"_law_tell", 2, semOf (pureL F_19) false 5 M_w_tell, false, true⟩
theorem S_w_tell : FnScope N_w_tell ["_law_how", "_law_tally_here"] (defScope t_w_tell) := ⟨rfl, rfl, rfl, by decide +kernel, rfl, by decide +kernel, by decide +kernel⟩
def F_20 : List FE := F_19 ++ [E_w_tell]
theorem A_w_tell : E_w_tell.ar = 2 := rfl
/-! _law_draw_pairs -/
def N_w_draw_pairs : List Str := ["_law_source", "_law_how", "_law_most", "_law_found", "_law_lap", "_law_given", "_law_sign"]
def M_w_draw_pairs_1 : MSs := (.cons (.set 5 .f (.call 17 (.src 0 (.cons (.ite (.or_ (.cmp .eq (.nm 1) (.k (.str "sum"))) (.cmp .eq (.call 15 (.src 0 (.cons (.k (.int 2)) .nil))) (.k (.int 0)))) (.k (.str "number")) (.k (.str "text"))) .nil)))) (.cons (.app 3 .f (.tup (.cons (.nm 5) (.cons (.idx (.lst (.cons (.k (.int 1)) (.cons (.k (.int 1)) (.cons (.op .sub (.k (.int 0)) (.k (.int 1))) .nil)))) (.call 15 (.src 0 (.cons (.k (.int 3)) .nil)))) .nil)))) (.cons (.ite (.cmp .eq (.call 15 (.src 0 (.cons (.k (.int 4)) .nil))) (.k (.int 0))) (.cons (.unp (.two (.nm 5) (.nm 6)) .i (.idx (.nm 3) (.call 15 (.src 0 (.cons (.b1 .len (.nm 3)) .nil))))) (.cons (.app 3 .f (.tup (.cons (.nm 5) (.cons (.op .sub (.k (.int 0)) (.nm 6)) .nil)))) .nil)) .nil) .nil)))
def M_w_draw_pairs : MSs := (.cons (.set 3 .o (.lst .nil)) (.cons (.for_ (.nm 4) (.range1 (.call 15 (.src 0 (.cons (.op .add (.nm 2) (.k (.int 1))) .nil)))) M_w_draw_pairs_1) (.cons (.ret (.nm 3)) .nil)))
theorem T_w_draw_pairs : TrSs (pureL F_20) gkL false N_w_draw_pairs (defScope t_w_draw_pairs) (defBody t_w_draw_pairs) M_w_draw_pairs := (.cons (.set .o rfl (.inl (by decide +kernel)) (.lst .nil) (fun _ => rfl)) (.cons (.for_ (.nm rfl (.inl (by decide +kernel)) (.inl rfl)) (.range1 (by decide +kernel) (.call 15 (by decide +kernel) rfl rfl (by decide +kernel) (.src rfl (.inl (by decide +kernel)) (by decide +kernel) (by decide +kernel) (.cons (.op .add (.nm rfl (.inl (by decide +kernel)) (by decide +kernel) (by decide +kernel)) .ci) .nil)))) (.cons (.set .f rfl (.inl (by decide +kernel)) (.call 17 (by decide +kernel) rfl rfl (by decide +kernel) (.src rfl (.inl (by decide +kernel)) (by decide +kernel) (by decide +kernel) (.cons (.ite (.bo (o := .Or) (.cons (.cmp .eq (.nm rfl (.inl (by decide +kernel)) (by decide +kernel) (by decide +kernel)) .cs rfl) (.one (.cmp .eq (.call 15 (by decide +kernel) rfl rfl (by decide +kernel) (.src rfl (.inl (by decide +kernel)) (by decide +kernel) (by decide +kernel) (.cons .ci .nil))) .ci rfl)))) .cs .cs) .nil))) (fun _ => rfl)) (.cons (.app .f rfl (.inl (by decide +kernel)) (by decide +kernel) (by decide +kernel) (.tup (.cons (.nm rfl (.inl (by decide +kernel)) (by decide +kernel) (by decide +kernel)) (.cons (.idx (.lst (.cons .ci (.cons .ci (.cons (.op .sub .ci .ci) .nil)))) (.call 15 (by decide +kernel) rfl rfl (by decide +kernel) (.src rfl (.inl (by decide +kernel)) (by decide +kernel) (by decide +kernel) (.cons .ci .nil))) (fun _ _ => rfl)) .nil))) rfl) (.cons (.ite (.cmp .eq (.call 15 (by decide +kernel) rfl rfl (by decide +kernel) (.src rfl (.inl (by decide +kernel)) (by decide +kernel) (by decide +kernel) (.cons .ci .nil))) .ci rfl) (.cons (.unp .i (.two (.nm rfl (.inl (by decide +kernel)) (.inl rfl)) (.nm rfl (.inl (by decide +kernel)) (.inl rfl))) (.idx (.nm rfl (.inl (by decide +kernel)) (by decide +kernel) (by decide +kernel)) (.call 15 (by decide +kernel) rfl rfl (by decide +kernel) (.src rfl (.inl (by decide +kernel)) (by decide +kernel) (by decide +kernel) (.cons (.b1 .len (by decide +kernel) (.nm rfl (.inl (by decide +kernel)) (by decide +kernel) (by decide +kernel))) .nil))) (fun _ _ => rfl)) (fun _ => rfl) (fun _ => rfl)) (.cons (.app .f rfl (.inl (by decide +kernel)) (by decide +kernel) (by decide +kernel) (.tup (.cons (.nm rfl (.inl (by decide +kernel)) (by decide +kernel) (by decide +kernel)) (.cons (.op .sub .ci (.nm rfl (.inl (by decide +kernel)) (by decide +kernel) (by decide +kernel))) .nil))) rfl) .nil)) .nil) .nil))) (fun _ _ => rfl)) (.cons (.ret (.nm rfl (.inl (by decide +kernel)) (by decide +kernel) (by decide +kernel))) .nil)))
def E_w_draw_pairs : FE := ⟨"_law_draw_pairs", 3, semOf (pureL F_20) false 7 M_w_draw_pairs, false, true⟩
theorem S_w_draw_pairs : FnScope N_w_draw_pairs ["_law_source", "_law_how", "_law_most"] (defScope t_w_draw_pairs) := ⟨rfl, rfl, rfl, by decide +kernel, rfl, by decide +kernel, by decide +kernel⟩
def F_21 : List FE := F_20 ++ [E_w_draw_pairs]
theorem A_w_draw_pairs : E_w_draw_pairs.ar = 3 := rfl
/-! _law_is_given -/
def N_w_is_given : List Str := ["_law_value", "_law_signs", "_law_sign"]
def M_w_is_given : MSs := (.cons (.set 1 .f (.k (.str "abcdefghijklmnopqrstuvwxyzABCDEFGHIJKLMNOPQRSTUVWXYZ0123456789 -_"))) (.cons (.ite (.isi (.nm 0) .str) (.cons (.ret (.and_ (.cmp .lt (.b1 .len (.nm 0)) (.k (.int 13))) (.b1 .all (.comp (.cmp .isin (.nm 2) (.nm 1)) (.nm 2) (.seq (.nm 0)) .nil [2])))) .nil) .nil) (.cons (.ret (.and_ (.isi (.nm 0) .int) (.not_ (.isi (.nm 0) .bool)))) .nil)))
theorem T_w_is_given : TrSs (pureL F_21) gkL false N_w_is_given (defScope t_w_is_given) (defBody t_w_is_given) M_w_is_given := (.cons (.set .f rfl (.inr (by decide +kernel)) .cs (fun _ => rfl)) (.cons (.ite (.isi .str (by decide +kernel) (by decide +kernel) (.nm rfl (.inl (by decide +kernel)) (by decide +kernel) (by decide +kernel))) (.cons (.ret (.bo (o := .And) (.cons (.cmp .lt (.b1 .len (by decide +kernel) (.nm rfl (.inl (by decide +kernel)) (by decide +kernel) (by decide +kernel))) .ci rfl) (.one (.b1 .all (by decide +kernel) (.comp (own := [("_law_sign", 2)]) (by decide +kernel) (.nm rfl (.inl (by decide +kernel)) (.inr (by decide +kernel))) (by decide +kernel) (.seq (.nm rfl (.inl (by decide +kernel)) (by decide +kernel) (by decide +kernel))) .nil (.cmp .isin (.nm rfl (.inl (by decide +kernel)) (by decide +kernel) (by decide +kernel)) (.nm rfl (.inr (.inl (by decide +kernel))) (by decide +kernel) (by decide +kernel)) rfl) (fun _ _ => rfl))))))) .nil) .nil) (.cons (.ret (.bo (o := .And) (.cons (.isi .int (by decide +kernel) (by decide +kernel) (.nm rfl (.inl (by decide +kernel)) (by decide +kernel) (by decide +kernel))) (.one (.not_ (.isi .bool (by decide +kernel) (by decide +kernel) (.nm rfl (.inl (by decide +kernel)) (by decide +kernel) (by decide +kernel)))))))) .nil)))
def E_w_is_given : FE := ⟨"_law_is_given", 1, semOf (pureL F_21) false 3 M_w_is_given, false, true⟩
theorem S_w_is_given : FnScope N_w_is_given ["_law_value"] (defScope t_w_is_given) := ⟨rfl, rfl, rfl, by decide +kernel, rfl, by decide +kernel, by decide +kernel⟩
def F_22 : List FE := F_21 ++ [E_w_is_given]
theorem A_w_is_given : E_w_is_given.ar = 1 := rfl
/-! _law_is_due -/
def N_w_is_due : List Str := ["_law_how", "_law_value", "_law_one", "_law_given", "_law_n", "_law_late"]
def M_w_is_due_1 : MSs := (.cons (.ite (.or_ (.not_ (.call 21 (.cons (.nm 3) .nil))) (.or_ (.not_ (.isi (.nm 4) .int)) (.or_ (.isi (.nm 4) .bool) (.cmp .eq (.nm 4) (.k (.int 0)))))) (.cons (.ret (.k (.bool false))) .nil) .nil) .nil)
def M_w_is_due : MSs := (.cons (.ite (.cmp .isin (.nm 0) (.tup (.cons (.k (.str "count")) (.cons (.k (.str "sum")) .nil)))) (.cons (.ret (.and_ (.isi (.nm 1) .int) (.not_ (.isi (.nm 1) .bool)))) .nil) .nil) (.cons (.ite (.or_ (.not_ (.isi (.nm 1) .tuple)) (.not_ (.b1 .all (.comp (.and_ (.isi (.nm 2) .tuple) (.cmp .eq (.b1 .len (.nm 2)) (.k (.int 2)))) (.nm 2) (.seq (.nm 1)) .nil [2])))) (.cons (.ret (.k (.bool false))) .nil) .nil) (.cons (.for_ (.two (.nm 3) (.nm 4)) (.seq (.nm 1)) M_w_is_due_1) (.cons (.ret (.b1 .all (.comp (.cmp .lt (.call 14 (.cons (.idx (.nm 2) (.k (.int 0))) .nil)) (.call 14 (.cons (.idx (.nm 5) (.k (.int 0))) .nil))) (.two (.nm 2) (.nm 5)) (.zip (.nm 1) (.slc (.nm 1) (.yes (.k (.int 1))) .no)) .nil [2, 5]))) .nil))))
theorem T_w_is_due : TrSs (pureL F_22) gkL false N_w_is_due (defScope t_w_is_due) (defBody t_w_is_due) M_w_is_due := (.cons (.ite (.cmp .isin (.nm rfl (.inl (by decide +kernel)) (by decide +kernel) (by decide +kernel)) (.tup (.cons .cs (.cons .cs .nil))) rfl) (.cons (.ret (.bo (o := .And) (.cons (.isi .int (by decide +kernel) (by decide +kernel) (.nm rfl (.inl (by decide +kernel)) (by decide +kernel) (by decide +kernel))) (.one (.not_ (.isi .bool (by decide +kernel) (by decide +kernel) (.nm rfl (.inl (by decide +kernel)) (by decide +kernel) (by decide +kernel)))))))) .nil) .nil) (.cons (.ite (.bo (o := .Or) (.cons (.not_ (.isi .tuple (by decide +kernel) (by decide +kernel) (.nm rfl (.inl (by decide +kernel)) (by decide +kernel) (by decide +kernel)))) (.one (.not_ (.b1 .all (by decide +kernel) (.comp (own := [("_law_one", 2)]) (by decide +kernel) (.nm rfl (.inl (by decide +kernel)) (.inr (by decide +kernel))) (by decide +kernel) (.seq (.nm rfl (.inl (by decide +kernel)) (by decide +kernel) (by decide +kernel))) .nil (.bo (o := .And) (.cons (.isi .tuple (by decide +kernel) (by decide +kernel) (.nm rfl (.inl (by decide +kernel)) (by decide +kernel) (by decide +kernel))) (.one (.cmp .eq (.b1 .len (by decide +kernel) (.nm rfl (.inl (by decide +kernel)) (by decide +kernel) (by decide +kernel))) .ci rfl)))) (fun _ _ => rfl))))))) (.cons (.ret .cb) .nil) .nil) (.cons (.for_ (.two (.nm rfl (.inl (by decide +kernel)) (.inl rfl)) (.nm rfl (.inl (by decide +kernel)) (.inl rfl))) (.seq (.nm rfl (.inl (by decide +kernel)) (by decide +kernel) (by decide +kernel))) (.cons (.ite (.bo (o := .Or) (.cons (.not_ (.call 21 (by decide +kernel) rfl rfl (by decide +kernel) (.cons (.nm rfl (.inl (by decide +kernel)) (by decide +kernel) (by decide +kernel)) .nil))) (.cons (.not_ (.isi .int (by decide +kernel) (by decide +kernel) (.nm rfl (.inl (by decide +kernel)) (by decide +kernel) (by decide +kernel)))) (.cons (.isi .bool (by decide +kernel) (by decide +kernel) (.nm rfl (.inl (by decide +kernel)) (by decide +kernel) (by decide +kernel))) (.one (.cmp .eq (.nm rfl (.inl (by decide +kernel)) (by decide +kernel) (by decide +kernel)) .ci rfl)))))) (.cons (.ret .cb) .nil) .nil) .nil) (fun _ _ => rfl)) (.cons (.ret (.b1 .all (by decide +kernel) (.comp (own := [("_law_one", 2), ("_law_late", 5)]) (by decide +kernel) (.two (.nm rfl (.inl (by decide +kernel)) (.inr (by decide +kernel))) (.nm rfl (.inl (by decide +kernel)) (.inr (by decide +kernel)))) (by decide +kernel) (.zip (by decide +kernel) (.nm rfl (.inl (by decide +kernel)) (by decide +kernel) (by decide +kernel)) (.slc (.nm rfl (.inl (by decide +kernel)) (by decide +kernel) (by decide +kernel)) (.yes .ci) .no)) .nil (.cmp .lt (.call 14 (by decide +kernel) rfl rfl (by decide +kernel) (.cons (.idx (.nm rfl (.inl (by decide +kernel)) (by decide +kernel) (by decide +kernel)) .ci (fun _ _ => rfl)) .nil)) (.call 14 (by decide +kernel) rfl rfl (by decide +kernel) (.cons (.idx (.nm rfl (.inl (by decide +kernel)) (by decide +kernel) (by decide +kernel)) .ci (fun _ _ => rfl)) .nil)) rfl) (fun _ _ => rfl)))) .nil))))
def E_w_is_due : FE := ⟨"_law_is_due", 2, semOf (pureL F_22) false 6 M_w_is_due, false, true⟩
theorem S_w_is_due : FnScope N_w_is_due ["_law_how", "_law_value"] (defScope t_w_is_due) := ⟨rfl, rfl, rfl, by decide +kernel, rfl, by decide +kernel, by decide +kernel⟩
def F_23 : List FE := F_22 ++ [E_w_is_due]
theorem A_w_is_due : E_w_is_due.ar = 2 := rfl
/-! _law_near -/
def N_w_near : List Str := ["_law_source", "_law_tally_here", "_law_odd", "_law_some"]
def M_w_near : MSs := (.cons (.set 2 .f (.lst (.cons (.k .none) (.cons (.k (.bool true)) (.cons (.k (.int 0)) (.cons (.k (.int 5)) (.cons (.op .pow (.k (.int 10)) (.k (.int 30))) (.cons (.k (.str "")) (.cons (.k (.str "a")) (.cons (.tup .nil) (.cons (.lst .nil) (.cons .dict0 (.cons (.tup (.cons (.tup (.cons (.k (.int 1)) (.cons (.k (.int 1)) .nil))) .nil)) (.cons (.tup (.cons (.tup (.cons (.k (.int 1)) (.cons (.k (.int 0)) .nil))) .nil)) (.cons (.tup (.cons (.tup (.cons (.k (.int 1)) (.cons (.k (.bool true)) .nil))) .nil)) .nil))))))))))))))) (.cons (.set 2 .f (.op .add (.nm 2) (.lst (.cons (.tup (.cons (.tup (.cons (.k .none) (.cons (.k (.int 1)) .nil))) .nil)) (.cons (.tup (.cons (.tup (.cons (.k (.bool true)) (.cons (.k (.int 1)) .nil))) .nil)) (.cons (.tup (.cons (.tup (.cons (.k (.int 1)) (.cons (.k (.int 1)) .nil))) (.cons (.tup (.cons (.k (.int 1)) (.cons (.k (.int 1)) .nil))) .nil))) (.cons (.tup (.cons (.tup (.cons (.k (.int 1)) (.cons (.k (.int 1)) .nil))) (.cons (.tup (.cons (.k (.int 1)) (.cons (.k (.int 2)) .nil))) .nil))) (.cons (.tup (.cons (.tup (.cons (.k (.int 2)) (.cons (.k (.int 1)) .nil))) (.cons (.tup (.cons (.k (.int 1)) (.cons (.k (.int 1)) .nil))) .nil))) .nil)))))))) (.cons (.set 2 .f (.op .add (.nm 2) (.lst (.cons (.tup (.cons (.tup (.cons (.k (.str "a")) (.cons (.k (.int 1)) .nil))) (.cons (.tup (.cons (.k (.int 1)) (.cons (.k (.int 1)) .nil))) .nil))) (.cons (.tup (.cons (.tup (.cons (.k (.int 1)) (.cons (.k (.int 1)) (.cons (.k (.int 1)) .nil)))) .nil)) (.cons (.tup (.cons (.lst (.cons (.k (.int 1)) (.cons (.k (.int 1)) .nil))) .nil)) (.cons (.tup (.cons (.k (.int 1)) (.cons (.k (.int 1)) .nil))) (.cons (.tup (.cons (.tup (.cons (.k (.str "a.b")) (.cons (.k (.int 1)) .nil))) .nil)) .nil)))))))) (.cons (.set 2 .f (.op .add (.nm 2) (.lst (.cons (.tup (.cons (.tup (.cons (.k (.str "abcdefghijklm")) (.cons (.k (.int 1)) .nil))) .nil)) (.cons (.tup (.cons (.tup (.cons (.k (.int 1)) (.cons (.k (.str "1")) .nil))) .nil)) (.cons (.tup (.cons (.tup (.cons (.tup (.cons (.k (.int 1)) .nil)) (.cons (.k (.int 1)) .nil))) .nil)) (.cons (.tup (.cons (.tup (.cons (.op .sub (.k (.int 0)) (.k (.int 5))) (.cons (.op .sub (.k (.int 0)) (.k (.int 2))) .nil))) (.cons (.tup (.cons (.k (.str "")) (.cons (.k (.int 3)) .nil))) .nil))) .nil))))))) (.cons (.set 2 .o (.catL (.nm 2) (.lst (.cons (.tup (.cons (.tup (.cons (.lst (.cons (.k (.int 1)) .nil)) (.cons (.k (.int 1)) .nil))) .nil)) (.cons (.tup (.cons (.tup (.cons .dict0 (.cons (.k (.int 1)) .nil))) (.cons (.tup (.cons (.k (.int 1)) (.cons (.k (.int 1)) .nil))) .nil))) (.cons (.tup (.cons (.tup (.cons (.k (.int 1)) (.cons (.k (.int 1)) .nil))) (.cons (.tup (.cons (.k (.int 2)) (.cons (.k (.int 0)) .nil))) .nil))) (.cons (.tup (.cons (.tup (.cons (.k (.int 1)) (.cons (.k (.int 1)) .nil))) (.cons (.tup (.cons (.k (.int 2)) (.cons (.k (.bool true)) .nil))) .nil))) (.cons (.tup (.cons (.tup (.cons (.k (.int 1)) (.cons (.k (.int 1)) .nil))) (.cons (.lst (.cons (.k (.int 2)) (.cons (.k (.int 1)) .nil))) .nil))) .nil)))))))) (.cons (.app 2 .f (.tup (.cons (.tup (.cons (.k (.int 1)) (.cons (.k (.int 1)) .nil))) (.cons (.tup (.cons (.k (.str "b")) (.cons (.k (.str "1")) .nil))) .nil)))) (.cons (.frz 2) (.cons (.set 3 .f (.lst (.cons (.nm 1) (.cons (.idx (.nm 2) (.call 15 (.src 0 (.cons (.b1 .len (.nm 2)) .nil)))) (.cons (.idx (.nm 2) (.call 15 (.src 0 (.cons (.b1 .len (.nm 2)) .nil)))) .nil))))) (.cons (.ite (.isi (.nm 1) .tuple) (.cons (.set 3 .f (.op .add (.nm 3) (.lst (.cons (.revl (.nm 1)) (.cons (.b1 .list (.nm 1)) (.cons (.op .add (.nm 1) (.slc (.nm 1) .no (.yes (.k (.int 1))))) (.cons (.slc (.nm 1) (.yes (.k (.int 1))) .no) (.cons (.op .add (.nm 1) (.tup (.cons (.tup (.cons (.k .none) (.cons (.k (.int 1)) .nil))) .nil))) .nil)))))))) .nil) .nil) (.cons (.ret (.nm 3)) .nil))))))))))
theorem T_w_near : TrSs (pureL F_23) gkL false N_w_near (defScope t_w_near) (defBody t_w_near) M_w_near := (.cons (.set .f rfl (.inl (by decide +kernel)) (.lst (.cons .cn (.cons .cb (.cons .ci (.cons .ci (.cons (.op .pow .ci .ci) (.cons .cs (.cons .cs (.cons (.tup .nil) (.cons (.lst .nil) (.cons .dict0 (.cons (.tup (.cons (.tup (.cons .ci (.cons .ci .nil))) .nil)) (.cons (.tup (.cons (.tup (.cons .ci (.cons .ci .nil))) .nil)) (.cons (.tup (.cons (.tup (.cons .ci (.cons .cb .nil))) .nil)) .nil)))))))))))))) (fun _ => rfl)) (.cons (.set .f rfl (.inl (by decide +kernel)) (.op .add (.nm rfl (.inl (by decide +kernel)) (by decide +kernel) (by decide +kernel)) (.lst (.cons (.tup (.cons (.tup (.cons .cn (.cons .ci .nil))) .nil)) (.cons (.tup (.cons (.tup (.cons .cb (.cons .ci .nil))) .nil)) (.cons (.tup (.cons (.tup (.cons .ci (.cons .ci .nil))) (.cons (.tup (.cons .ci (.cons .ci .nil))) .nil))) (.cons (.tup (.cons (.tup (.cons .ci (.cons .ci .nil))) (.cons (.tup (.cons .ci (.cons .ci .nil))) .nil))) (.cons (.tup (.cons (.tup (.cons .ci (.cons .ci .nil))) (.cons (.tup (.cons .ci (.cons .ci .nil))) .nil))) .nil))))))) (fun _ => rfl)) (.cons (.set .f rfl (.inl (by decide +kernel)) (.op .add (.nm rfl (.inl (by decide +kernel)) (by decide +kernel) (by decide +kernel)) (.lst (.cons (.tup (.cons (.tup (.cons .cs (.cons .ci .nil))) (.cons (.tup (.cons .ci (.cons .ci .nil))) .nil))) (.cons (.tup (.cons (.tup (.cons .ci (.cons .ci (.cons .ci .nil)))) .nil)) (.cons (.tup (.cons (.lst (.cons .ci (.cons .ci .nil))) .nil)) (.cons (.tup (.cons .ci (.cons .ci .nil))) (.cons (.tup (.cons (.tup (.cons .cs (.cons .ci .nil))) .nil)) .nil))))))) (fun _ => rfl)) (.cons (.set .f rfl (.inl (by decide +kernel)) (.op .add (.nm rfl (.inl (by decide +kernel)) (by decide +kernel) (by decide +kernel)) (.lst (.cons (.tup (.cons (.tup (.cons .cs (.cons .ci .nil))) .nil)) (.cons (.tup (.cons (.tup (.cons .ci (.cons .cs .nil))) .nil)) (.cons (.tup (.cons (.tup (.cons (.tup (.cons .ci .nil)) (.cons .ci .nil))) .nil)) (.cons (.tup (.cons (.tup (.cons (.op .sub .ci .ci) (.cons (.op .sub .ci .ci) .nil))) (.cons (.tup (.cons .cs (.cons .ci .nil))) .nil))) .nil)))))) (fun _ => rfl)) (.cons (.set .o rfl (.inl (by decide +kernel)) (.catL (.nm rfl (.inl (by decide +kernel)) (by decide +kernel) (by decide +kernel)) (.lst (.cons (.tup (.cons (.tup (.cons (.lst (.cons .ci .nil)) (.cons .ci .nil))) .nil)) (.cons (.tup (.cons (.tup (.cons .dict0 (.cons .ci .nil))) (.cons (.tup (.cons .ci (.cons .ci .nil))) .nil))) (.cons (.tup (.cons (.tup (.cons .ci (.cons .ci .nil))) (.cons (.tup (.cons .ci (.cons .ci .nil))) .nil))) (.cons (.tup (.cons (.tup (.cons .ci (.cons .ci .nil))) (.cons (.tup (.cons .ci (.cons .cb .nil))) .nil))) (.cons (.tup (.cons (.tup (.cons .ci (.cons .ci .nil))) (.cons (.lst (.cons .ci (.cons .ci .nil))) .nil))) .nil))))))) (fun _ => rfl)) (.cons (.app .f rfl (.inl (by decide +kernel)) (by decide +kernel) (by decide +kernel) (.tup (.cons (.tup (.cons .ci (.cons .ci .nil))) (.cons (.tup (.cons .cs (.cons .cs .nil))) .nil))) rfl) (.frz 2 (.cons (.set .f rfl (.inl (by decide +kernel)) (.lst (.cons (.nm rfl (.inl (by decide +kernel)) (by decide +kernel) (by decide +kernel)) (.cons (.idx (.nm rfl (.inl (by decide +kernel)) (by decide +kernel) (by decide +kernel)) (.call 15 (by decide +kernel) rfl rfl (by decide +kernel) (.src rfl (.inl (by decide +kernel)) (by decide +kernel) (by decide +kernel) (.cons (.b1 .len (by decide +kernel) (.nm rfl (.inl (by decide +kernel)) (by decide +kernel) (by decide +kernel))) .nil))) (fun _ _ => rfl)) (.cons (.idx (.nm rfl (.inl (by decide +kernel)) (by decide +kernel) (by decide +kernel)) (.call 15 (by decide +kernel) rfl rfl (by decide +kernel) (.src rfl (.inl (by decide +kernel)) (by decide +kernel) (by decide +kernel) (.cons (.b1 .len (by decide +kernel) (.nm rfl (.inl (by decide +kernel)) (by decide +kernel) (by decide +kernel))) .nil))) (fun _ _ => rfl)) .nil)))) (fun _ => rfl)) (.cons (.ite (.isi .tuple (by decide +kernel) (by decide +kernel) (.nm rfl (.inl (by decide +kernel)) (by decide +kernel) (by decide +kernel))) (.cons (.set .f rfl (.inl (by decide +kernel)) (.op .add (.nm rfl (.inl (by decide +kernel)) (by decide +kernel) (by decide +kernel)) (.lst (.cons (.revl (.nm rfl (.inl (by decide +kernel)) (by decide +kernel) (by decide +kernel))) (.cons (.b1 .list (by decide +kernel) (.nm rfl (.inl (by decide +kernel)) (by decide +kernel) (by decide +kernel))) (.cons (.op .add (.nm rfl (.inl (by decide +kernel)) (by decide +kernel) (by decide +kernel)) (.slc (.nm rfl (.inl (by decide +kernel)) (by decide +kernel) (by decide +kernel)) .no (.yes .ci))) (.cons (.slc (.nm rfl (.inl (by decide +kernel)) (by decide +kernel) (by decide +kernel)) (.yes .ci) .no) (.cons (.op .add (.nm rfl (.inl (by decide +kernel)) (by decide +kernel) (by decide +kernel)) (.tup (.cons (.tup (.cons .cn (.cons .ci .nil))) .nil))) .nil))))))) (fun _ => rfl)) .nil) .nil) (.cons (.ret (.nm rfl (.inl (by decide +kernel)) (by decide +kernel) (by decide +kernel))) .nil))))))))))
def E_w_near : FE := ⟨"_law_near", 2, semOf (pureL F_23) false 4 M_w_near, false, true⟩
theorem S_w_near : FnScope N_w_near ["_law_source", "_law_tally_here"] (defScope t_w_near) := ⟨rfl, rfl, rfl, by decide +kernel, rfl, by decide +kernel, by decide +kernel⟩
def F_24 : List FE := F_23 ++ [E_w_near]
theorem A_w_near : E_w_near.ar = 2 := rfl
/-! _law_made_right -/
def N_w_made_right : List Str := ["_law_source", "_law_how", "_law_pairs", "_law_due", "_law_k", "_law_held", "_law_here", "_law_given", "_law_sign", "_law_one", "_law_other", "_law_found", "_law_back", "_law_value", "_law_shown"]
def M_w_made_right_1 : MSs := (.cons (.set 14 .f (.b1 .repr (.nm 13))) (.cons (.ite (.or_ (.cmp .ne (.b1 .repr (.call 5 (.cons (.nm 1) (.cons (.nm 13) .nil)))) (.b1 .repr (.call 22 (.cons (.nm 1) (.cons (.nm 13) .nil))))) (.cmp .ne (.b1 .repr (.nm 13)) (.nm 14))) (.cons (.ret (.k (.bool false))) .nil) .nil) .nil))
def M_w_made_right_2 : MSs := (.cons (.set 6 .f (.call 8 (.cons (.nm 1) (.cons (.nm 6) (.cons (.nm 7) (.cons (.nm 8) .nil)))))) .nil)
def M_w_made_right : MSs := (.cons (.set 2 .f (.call 20 (.src 0 (.cons (.nm 1) (.cons (.k (.int 9)) .nil))))) (.cons (.par [3, 4, 5] [.f, .f, .f] (.cons (.call 18 (.cons (.nm 1) (.cons (.nm 2) .nil))) (.cons (.call 15 (.src 0 (.cons (.op .add (.b1 .len (.nm 2)) (.k (.int 1))) .nil))) (.cons (.b1 .repr (.nm 2)) .nil)))) (.cons (.set 6 .f (.call 6 (.cons (.nm 1) .nil))) (.cons (.for_ (.two (.nm 7) (.nm 8)) (.seq (.call 16 (.src 0 (.cons (.nm 2) .nil)))) M_w_made_right_2) (.cons (.par2 9 10 .f .f (.call 18 (.cons (.nm 1) (.cons (.slc (.nm 2) .no (.yes (.nm 4))) .nil))) (.call 18 (.cons (.nm 1) (.cons (.slc (.nm 2) (.yes (.nm 4)) .no) .nil)))) (.cons (.set 11 .f (.lst (.cons (.nm 6) (.cons (.call 9 (.cons (.nm 1) (.cons (.call 6 (.cons (.nm 1) .nil)) (.cons (.nm 2) .nil)))) (.cons (.call 9 (.cons (.nm 1) (.cons (.nm 9) (.cons (.b1 .tuple (.slc (.nm 2) (.yes (.nm 4)) .no)) .nil)))) (.cons (.call 11 (.cons (.nm 1) (.cons (.nm 9) (.cons (.nm 10) .nil)))) .nil)))))) (.cons (.set 11 .f (.op .add (.nm 11) (.lst (.cons (.call 11 (.cons (.nm 1) (.cons (.nm 10) (.cons (.nm 9) .nil)))) (.cons (.call 11 (.cons (.nm 1) (.cons (.nm 3) (.cons (.call 6 (.cons (.nm 1) .nil)) .nil)))) (.cons (.call 12 (.cons (.nm 1) (.cons (.call 11 (.cons (.nm 1) (.cons (.nm 3) (.cons (.nm 9) .nil)))) (.cons (.nm 9) .nil)))) .nil)))))) (.cons (.ite (.or_ (.cmp .ne (.b1 .repr (.nm 11)) (.b1 .repr (.op .mul (.lst (.cons (.nm 3) .nil)) (.k (.int 7))))) (.or_ (.cmp .ne (.b1 .repr (.nm 2)) (.nm 5)) (.cmp .ne (.call 12 (.cons (.nm 1) (.cons (.nm 3) (.cons (.nm 9) .nil)))) (.nm 10)))) (.cons (.ret (.k (.bool false))) .nil) .nil) (.cons (.set 12 .f (.call 9 (.cons (.nm 1) (.cons (.nm 3) (.cons (.comp (.tup (.cons (.nm 7) (.cons (.op .sub (.k (.int 0)) (.nm 8)) .nil))) (.two (.nm 7) (.nm 8)) (.seq (.call 16 (.src 0 (.cons (.nm 2) .nil)))) .nil [7, 8]) .nil))))) (.cons (.ite (.or_ (.cmp .ne (.b1 .repr (.nm 12)) (.b1 .repr (.call 6 (.cons (.nm 1) .nil)))) (.cmp .ne (.b1 .repr (.call 13 (.cons (.nm 1) (.cons (.nm 3) .nil)))) (.b1 .repr (.call 19 (.cons (.nm 1) (.cons (.nm 3) .nil)))))) (.cons (.ret (.k (.bool false))) .nil) .nil) (.cons (.for_ (.nm 13) (.seq (.call 23 (.src 0 (.cons (.nm 3) .nil)))) M_w_made_right_1) (.cons (.ret (.k (.bool true))) .nil))))))))))))
theorem T_w_made_right : TrSs (pureL F_24) gkL false N_w_made_right (defScope t_w_made_right) (defBody t_w_made_right) M_w_made_right := (.cons (.set .f rfl (.inl (by decide +kernel)) (.call 20 (by decide +kernel) rfl rfl (by decide +kernel) (.src rfl (.inl (by decide +kernel)) (by decide +kernel) (by decide +kernel) (.cons (.nm rfl (.inl (by decide +kernel)) (by decide +kernel) (by decide +kernel)) (.cons .ci .nil)))) (fun _ => rfl)) (.cons (.par3 rfl rfl rfl (by decide) (by decide) (by decide) (by decide +kernel) (by decide +kernel) (by decide +kernel) (.cons .f (.call 18 (by decide +kernel) rfl rfl (by decide +kernel) (.cons (.nm rfl (.inl (by decide +kernel)) (by decide +kernel) (by decide +kernel)) (.cons (.nm rfl (.inl (by decide +kernel)) (by decide +kernel) (by decide +kernel)) .nil))) (.cons .f (.call 15 (by decide +kernel) rfl rfl (by decide +kernel) (.src rfl (.inl (by decide +kernel)) (by decide +kernel) (by decide +kernel) (.cons (.op .add (.b1 .len (by decide +kernel) (.nm rfl (.inl (by decide +kernel)) (by decide +kernel) (by decide +kernel))) .ci) .nil))) (.cons .f (.b1 .repr (by decide +kernel) (.nm rfl (.inl (by decide +kernel)) (by decide +kernel) (by decide +kernel))) .nil))) (fun env hs hk => sw3_yes hk (by rw [hs]; decide +kernel) (by rw [hs]; decide +kernel) (by rw [hs]; decide +kernel) rfl rfl (by decide +kernel) (by decide +kernel) (by decide +kernel) rfl rfl rfl rfl rfl)) (.cons (.set .f rfl (.inl (by decide +kernel)) (.call 6 (by decide +kernel) rfl rfl (by decide +kernel) (.cons (.nm rfl (.inl (by decide +kernel)) (by decide +kernel) (by decide +kernel)) .nil)) (fun _ => rfl)) (.cons (.for_ (.two (.nm rfl (.inl (by decide +kernel)) (.inl rfl)) (.nm rfl (.inl (by decide +kernel)) (.inl rfl))) (.seq (.call 16 (by decide +kernel) rfl rfl (by decide +kernel) (.src rfl (.inl (by decide +kernel)) (by decide +kernel) (by decide +kernel) (.cons (.nm rfl (.inl (by decide +kernel)) (by decide +kernel) (by decide +kernel)) .nil)))) (.cons (.set .f rfl (.inl (by decide +kernel)) (.call 8 (by decide +kernel) rfl rfl (by decide +kernel) (.cons (.nm rfl (.inl (by decide +kernel)) (by decide +kernel) (by decide +kernel)) (.cons (.nm rfl (.inl (by decide +kernel)) (by decide +kernel) (by decide +kernel)) (.cons (.nm rfl (.inl (by decide +kernel)) (by decide +kernel) (by decide +kernel)) (.cons (.nm rfl (.inl (by decide +kernel)) (by decide +kernel) (by decide +kernel)) .nil))))) (fun _ => rfl)) .nil) (fun _ _ => rfl)) (.cons (.par2 .f .f rfl rfl (by decide) (by decide +kernel) (by decide +kernel) (by decide +kernel) rfl (.call 18 (by decide +kernel) rfl rfl (by decide +kernel) (.cons (.nm rfl (.inl (by decide +kernel)) (by decide +kernel) (by decide +kernel)) (.cons (.slc (.nm rfl (.inl (by decide +kernel)) (by decide +kernel) (by decide +kernel)) .no (.yes (.nm rfl (.inl (by decide +kernel)) (by decide +kernel) (by decide +kernel)))) .nil))) (.call 18 (by decide +kernel) rfl rfl (by decide +kernel) (.cons (.nm rfl (.inl (by decide +kernel)) (by decide +kernel) (by decide +kernel)) (.cons (.slc (.nm rfl (.inl (by decide +kernel)) (by decide +kernel) (by decide +kernel)) (.yes (.nm rfl (.inl (by decide +kernel)) (by decide +kernel) (by decide +kernel))) .no) .nil))) rfl rfl) (.cons (.set .f rfl (.inl (by decide +kernel)) (.lst (.cons (.nm rfl (.inl (by decide +kernel)) (by decide +kernel) (by decide +kernel)) (.cons (.call 9 (by decide +kernel) rfl rfl (by decide +kernel) (.cons (.nm rfl (.inl (by decide +kernel)) (by decide +kernel) (by decide +kernel)) (.cons (.call 6 (by decide +kernel) rfl rfl (by decide +kernel) (.cons (.nm rfl (.inl (by decide +kernel)) (by decide +kernel) (by decide +kernel)) .nil)) (.cons (.nm rfl (.inl (by decide +kernel)) (by decide +kernel) (by decide +kernel)) .nil)))) (.cons (.call 9 (by decide +kernel) rfl rfl (by decide +kernel) (.cons (.nm rfl (.inl (by decide +kernel)) (by decide +kernel) (by decide +kernel)) (.cons (.nm rfl (.inl (by decide +kernel)) (by decide +kernel) (by decide +kernel)) (.cons (.b1 .tuple (by decide +kernel) (.slc (.nm rfl (.inl (by decide +kernel)) (by decide +kernel) (by decide +kernel)) (.yes (.nm rfl (.inl (by decide +kernel)) (by decide +kernel) (by decide +kernel))) .no)) .nil)))) (.cons (.call 11 (by decide +kernel) rfl rfl (by decide +kernel) (.cons (.nm rfl (.inl (by decide +kernel)) (by decide +kernel) (by decide +kernel)) (.cons (.nm rfl (.inl (by decide +kernel)) (by decide +kernel) (by decide +kernel)) (.cons (.nm rfl (.inl (by decide +kernel)) (by decide +kernel) (by decide +kernel)) .nil)))) .nil))))) (fun _ => rfl)) (.cons (.set .f rfl (.inl (by decide +kernel)) (.op .add (.nm rfl (.inl (by decide +kernel)) (by decide +kernel) (by decide +kernel)) (.lst (.cons (.call 11 (by decide +kernel) rfl rfl (by decide +kernel) (.cons (.nm rfl (.inl (by decide +kernel)) (by decide +kernel) (by decide +kernel)) (.cons (.nm rfl (.inl (by decide +kernel)) (by decide +kernel) (by decide +kernel)) (.cons (.nm rfl (.inl (by decide +kernel)) (by decide +kernel) (by decide +kernel)) .nil)))) (.cons (.call 11 (by decide +kernel) rfl rfl (by decide +kernel) (.cons (.nm rfl (.inl (by decide +kernel)) (by decide +kernel) (by decide +kernel)) (.cons (.nm rfl (.inl (by decide +kernel)) (by decide +kernel) (by decide +kernel)) (.cons (.call 6 (by decide +kernel) rfl rfl (by decide +kernel) (.cons (.nm rfl (.inl (by decide +kernel)) (by decide +kernel) (by decide +kernel)) .nil)) .nil)))) (.cons (.call 12 (by decide +kernel) rfl rfl (by decide +kernel) (.cons (.nm rfl (.inl (by decide +kernel)) (by decide +kernel) (by decide +kernel)) (.cons (.call 11 (by decide +kernel) rfl rfl (by decide +kernel) (.cons (.nm rfl (.inl (by decide +kernel)) (by decide +kernel) (by decide +kernel)) (.cons (.nm rfl (.inl (by decide +kernel)) (by decide +kernel) (by decide +kernel)) (.cons (.nm rfl (.inl (by decide +kernel)) (by decide +kernel) (by decide +kernel)) .nil)))) (.cons (.nm rfl (.inl (by decide +kernel)) (by decide +kernel) (by decide +kernel)) .nil)))) .nil))))) (fun _ => rfl)) (.cons (.ite (.bo (o := .Or) (.cons (.cmp .ne (.b1 .repr (by decide +kernel) (.nm rfl (.inl (by decide +kernel)) (by decide +kernel) (by decide +kernel))) (.b1 .repr (by decide +kernel) (.op .mul (.lst (.cons (.nm rfl (.inl (by decide +kernel)) (by decide +kernel) (by decide +kernel)) .nil)) .ci)) rfl) (.cons (.cmp .ne (.b1 .repr (by decide +kernel) (.nm rfl (.inl (by decide +kernel)) (by decide +kernel) (by decide +kernel))) (.nm rfl (.inl (by decide +kernel)) (by decide +kernel) (by decide +kernel)) rfl) (.one (.cmp .ne (.call 12 (by decide +kernel) rfl rfl (by decide +kernel) (.cons (.nm rfl (.inl (by decide +kernel)) (by decide +kernel) (by decide +kernel)) (.cons (.nm rfl (.inl (by decide +kernel)) (by decide +kernel) (by decide +kernel)) (.cons (.nm rfl (.inl (by decide +kernel)) (by decide +kernel) (by decide +kernel)) .nil)))) (.nm rfl (.inl (by decide +kernel)) (by decide +kernel) (by decide +kernel)) rfl))))) (.cons (.ret .cb) .nil) .nil) (.cons (.set .f rfl (.inl (by decide +kernel)) (.call 9 (by decide +kernel) rfl rfl (by decide +kernel) (.cons (.nm rfl (.inl (by decide +kernel)) (by decide +kernel) (by decide +kernel)) (.cons (.nm rfl (.inl (by decide +kernel)) (by decide +kernel) (by decide +kernel)) (.cons (.comp (own := [("_law_given", 7), ("_law_sign", 8)]) (by decide +kernel) (.two (.nm rfl (.inl (by decide +kernel)) (.inr (by decide +kernel))) (.nm rfl (.inl (by decide +kernel)) (.inr (by decide +kernel)))) (by decide +kernel) (.seq (.call 16 (by decide +kernel) rfl rfl (by decide +kernel) (.src rfl (.inl (by decide +kernel)) (by decide +kernel) (by decide +kernel) (.cons (.nm rfl (.inl (by decide +kernel)) (by decide +kernel) (by decide +kernel)) .nil)))) .nil (.tup (.cons (.nm rfl (.inl (by decide +kernel)) (by decide +kernel) (by decide +kernel)) (.cons (.op .sub .ci (.nm rfl (.inl (by decide +kernel)) (by decide +kernel) (by decide +kernel))) .nil))) (fun _ _ => rfl)) .nil)))) (fun _ => rfl)) (.cons (.ite (.bo (o := .Or) (.cons (.cmp .ne (.b1 .repr (by decide +kernel) (.nm rfl (.inl (by decide +kernel)) (by decide +kernel) (by decide +kernel))) (.b1 .repr (by decide +kernel) (.call 6 (by decide +kernel) rfl rfl (by decide +kernel) (.cons (.nm rfl (.inl (by decide +kernel)) (by decide +kernel) (by decide +kernel)) .nil))) rfl) (.one (.cmp .ne (.b1 .repr (by decide +kernel) (.call 13 (by decide +kernel) rfl rfl (by decide +kernel) (.cons (.nm rfl (.inl (by decide +kernel)) (by decide +kernel) (by decide +kernel)) (.cons (.nm rfl (.inl (by decide +kernel)) (by decide +kernel) (by decide +kernel)) .nil)))) (.b1 .repr (by decide +kernel) (.call 19 (by decide +kernel) rfl rfl (by decide +kernel) (.cons (.nm rfl (.inl (by decide +kernel)) (by decide +kernel) (by decide +kernel)) (.cons (.nm rfl (.inl (by decide +kernel)) (by decide +kernel) (by decide +kernel)) .nil)))) rfl)))) (.cons (.ret .cb) .nil) .nil) (.cons (.for_ (.nm rfl (.inl (by decide +kernel)) (.inl rfl)) (.seq (.call 23 (by decide +kernel) rfl rfl (by decide +kernel) (.src rfl (.inl (by decide +kernel)) (by decide +kernel) (by decide +kernel) (.cons (.nm rfl (.inl (by decide +kernel)) (by decide +kernel) (by decide +kernel)) .nil)))) (.cons (.set .f rfl (.inl (by decide +kernel)) (.b1 .repr (by decide +kernel) (.nm rfl (.inl (by decide +kernel)) (by decide +kernel) (by decide +kernel))) (fun _ => rfl)) (.cons (.ite (.bo (o := .Or) (.cons (.cmp .ne (.b1 .repr (by decide +kernel) (.call 5 (by decide +kernel) rfl rfl (by decide +kernel) (.cons (.nm rfl (.inl (by decide +kernel)) (by decide +kernel) (by decide +kernel)) (.cons (.nm rfl (.inl (by decide +kernel)) (by decide +kernel) (by decide +kernel)) .nil)))) (.b1 .repr (by decide +kernel) (.call 22 (by decide +kernel) rfl rfl (by decide +kernel) (.cons (.nm rfl (.inl (by decide +kernel)) (by decide +kernel) (by decide +kernel)) (.cons (.nm rfl (.inl (by decide +kernel)) (by decide +kernel) (by decide +kernel)) .nil)))) rfl) (.one (.cmp .ne (.b1 .repr (by decide +kernel) (.nm rfl (.inl (by decide +kernel)) (by decide +kernel) (by decide +kernel))) (.nm rfl (.inl (by decide +kernel)) (by decide +kernel) (by decide +kernel)) rfl)))) (.cons (.ret .cb) .nil) .nil) .nil)) (fun _ _ => rfl)) (.cons (.ret .cb) .nil))))))))))))
def E_w_made_right : FE := ⟨"_law_made_right", 2, semOf (pureL F_24) false 15 M_w_made_right, false, true⟩
theorem S_w_made_right : FnScope N_w_made_right ["_law_source", "_law_how"] (defScope t_w_made_right) := ⟨rfl, rfl, rfl, by decide +kernel, rfl, by decide +kernel, by decide +kernel⟩
def F_25 : List FE := F_24 ++ [E_w_made_right]
theorem A_w_made_right : E_w_made_right.ar = 2 := rfl
/-! law -/
def N_law : List Str := ["_law_script", "_law_source", "_law_how", "_law_lap", "_law_value"]
def M_law_1 : MSs := (.cons (.ite (.not_ (.isB false (.call 3 (.cons (.nm 4) .nil)))) (.cons (.ret (.k (.bool false))) .nil) .nil) .nil)
def M_law_2 : MSs := (.cons (.ite (.not_ (.call 24 (.src 1 (.cons (.nm 2) .nil)))) (.cons (.ret (.k (.bool false))) .nil) .nil) .nil)
def M_law_3 : MSs := (.cons (.for_ (.nm 3) (.range1 (.k (.int 2))) M_law_2) .nil)
def M_law : MSs := (.cons (.for_ (.nm 2) (.seq (.tup (.cons (.k (.str "count")) (.cons (.k (.str "sum")) (.cons (.k (.str "least")) (.cons (.k (.str "greatest")) .nil)))))) M_law_3) (.cons (.for_ (.nm 4) (.seq (.tup (.cons (.k (.str "Count")) (.cons (.k (.str "most")) (.cons (.k (.str "")) (.cons (.k .none) (.cons (.k (.int 0)) (.cons (.k (.bool true)) (.cons (.tup .nil) (.cons (.lst (.cons (.k (.str "sum")) .nil)) (.cons .dict0 (.cons (.tup (.cons (.k (.str "sum")) .nil)) (.cons (.k (.str "sum ")) .nil))))))))))))) M_law_1) (.cons (.ite (.cmp .ne (.comp (.call 6 (.cons (.nm 2) .nil)) (.nm 2) (.seq (.tup (.cons (.k (.str "count")) (.cons (.k (.str "sum")) (.cons (.k (.str "least")) (.cons (.k (.str "greatest")) .nil)))))) .nil [2]) (.lst (.cons (.k (.int 0)) (.cons (.k (.int 0)) (.cons (.tup .nil) (.cons (.tup .nil) .nil)))))) (.cons (.ret (.k (.bool false))) .nil) .nil) (.cons (.ret (.cmp .eq (.comp (.call 3 (.cons (.nm 2) .nil)) (.nm 2) (.seq (.tup (.cons (.k (.str "count")) (.cons (.k (.str "sum")) (.cons (.k (.str "least")) (.cons (.k (.str "greatest")) .nil)))))) .nil [2]) (.op .mul (.lst (.cons (.k (.bool true)) .nil)) (.k (.int 4))))) .nil))))
theorem T_law : TrSs F_25 gkL false N_law (defScope t_law) (defBody t_law).tail M_law := (.cons (.for_ (.nm rfl (.inl (by decide +kernel)) (.inl rfl)) (.seq (.tup (.cons .cs (.cons .cs (.cons .cs (.cons .cs .nil)))))) (.cons (.for_ (.nm rfl (.inl (by decide +kernel)) (.inl rfl)) (.range1 (by decide +kernel) .ci) (.cons (.ite (.not_ (.call 24 (by decide +kernel) rfl rfl (by decide +kernel) (.src rfl (.inl (by decide +kernel)) (by decide +kernel) (by decide +kernel) (.cons (.nm rfl (.inl (by decide +kernel)) (by decide +kernel) (by decide +kernel)) .nil)))) (.cons (.ret .cb) .nil) .nil) .nil) (fun _ _ => rfl)) .nil) (fun _ _ => rfl)) (.cons (.for_ (.nm rfl (.inl (by decide +kernel)) (.inl rfl)) (.seq (.tup (.cons .cs (.cons .cs (.cons .cs (.cons .cn (.cons .ci (.cons .cb (.cons (.tup .nil) (.cons (.lst (.cons .cs .nil)) (.cons .dict0 (.cons (.tup (.cons .cs .nil)) (.cons .cs .nil))))))))))))) (.cons (.ite (.notB (.call 3 (by decide +kernel) rfl rfl (by decide +kernel) (.cons (.nm rfl (.inl (by decide +kernel)) (by decide +kernel) (by decide +kernel)) .nil))) (.cons (.ret .cb) .nil) .nil) .nil) (fun _ _ => rfl)) (.cons (.ite (.cmp .ne (.comp (own := [("_law_how", 2)]) (by decide +kernel) (.nm rfl (.inl (by decide +kernel)) (.inr (by decide +kernel))) (by decide +kernel) (.seq (.tup (.cons .cs (.cons .cs (.cons .cs (.cons .cs .nil)))))) .nil (.call 6 (by decide +kernel) rfl rfl (by decide +kernel) (.cons (.nm rfl (.inl (by decide +kernel)) (by decide +kernel) (by decide +kernel)) .nil)) (fun _ _ => rfl)) (.lst (.cons .ci (.cons .ci (.cons (.tup .nil) (.cons (.tup .nil) .nil))))) rfl) (.cons (.ret .cb) .nil) .nil) (.cons (.ret (.cmp .eq (.comp (own := [("_law_how", 2)]) (by decide +kernel) (.nm rfl (.inl (by decide +kernel)) (.inr (by decide +kernel))) (by decide +kernel) (.seq (.tup (.cons .cs (.cons .cs (.cons .cs (.cons .cs .nil)))))) .nil (.call 3 (by decide +kernel) rfl rfl (by decide +kernel) (.cons (.nm rfl (.inl (by decide +kernel)) (by decide +kernel) (by decide +kernel)) .nil)) (fun _ _ => rfl)) (.op .mul (.lst (.cons .cb .nil)) .ci) rfl)) .nil))))
theorem P_p01_0 : (pureL F_01)[0]? = some E_is_integer_values := rfl
theorem P_p05_1 : (pureL F_05)[1]? = some E_is_value := rfl
theorem P_p05_2 : (pureL F_05)[2]? = some E_rank := rfl
theorem P_p05_4 : (pureL F_05)[4]? = some E_is_integer_sums := rfl
theorem P_p07_2 : (pureL F_07)[2]? = some E_rank := rfl
theorem P_p08_7 : (pureL F_08)[7]? = some E_listed := rfl
theorem P_p09_8 : (pureL F_09)[8]? = some E_add := rfl
theorem P_p10_7 : (pureL F_10)[7]? = some E_listed := rfl
theorem P_p11_10 : (pureL F_11)[10]? = some E_joined := rfl
theorem P_p12_10 : (pureL F_12)[10]? = some E_joined := rfl
theorem P_p17_15 : (pureL F_17)[15]? = some pickF := rfl
theorem P_p18_14 : (pureL F_18)[14]? = some E_w_rank := rfl
theorem P_p20_15 : (pureL F_20)[15]? = some pickF := rfl
theorem P_p20_17 : (pureL F_20)[17]? = some E_w_draw_given_value := rfl
theorem P_p22_14 : (pureL F_22)[14]? = some E_w_rank := rfl
theorem P_p22_21 : (pureL F_22)[21]? = some E_w_is_given := rfl
theorem P_p23_15 : (pureL F_23)[15]? = some pickF := rfl
theorem P_p24_5 : (pureL F_24)[5]? = some E_is_tally := rfl
theorem P_p24_6 : (pureL F_24)[6]? = some E_empty := rfl
theorem P_p24_8 : (pureL F_24)[8]? = some E_add := rfl
theorem P_p24_9 : (pureL F_24)[9]? = some E_add_all := rfl
theorem P_p24_11 : (pureL F_24)[11]? = some E_both := rfl
theorem P_p24_12 : (pureL F_24)[12]? = some E_less := rfl
theorem P_p24_13 : (pureL F_24)[13]? = some E_tell := rfl
theorem P_p24_15 : (pureL F_24)[15]? = some pickF := rfl
theorem P_p24_16 : (pureL F_24)[16]? = some orderF := rfl
theorem P_p24_18 : (pureL F_24)[18]? = some E_w_tally := rfl
theorem P_p24_19 : (pureL F_24)[19]? = some E_w_tell := rfl
theorem P_p24_20 : (pureL F_24)[20]? = some E_w_draw_pairs := rfl
theorem P_p24_22 : (pureL F_24)[22]? = some E_w_is_due := rfl
theorem P_p24_23 : (pureL F_24)[23]? = some E_w_near := rfl
theorem P_25_3 : F_25[3]? = some E_is_how := rfl
theorem P_25_6 : F_25[6]? = some E_empty := rfl
theorem P_25_24 : F_25[24]? = some E_w_made_right := rfl
end Os
end
section
set_option linter.all false
set_option maxRecDepth 100000
set_option maxHeartbeats 4000000
/-! K11q: the readings of _law_pick, _law_any_order, _law_open_cells. -/
namespace Os
open PySem PySem.Spec PySem.Calls PyProof.Rows L2
section
variable {X : Cx} {Φ : Fs} {gk : List (Str × D)} {k : Nat}
theorem hvar (N : List Str) (sc : Scope) (hN : X.N = N) (hs : X.env.scope = sc) (i : Nat) {x : Str} {pos : Pos} (h1 : N[i]? = some x := by rfl) (h2 : sc.names.lookup x = some .local := by rfl) (h3 : (x == ("__debug__" : Str)) = false := by decide) (h4 : (x == ("__classdict__" : Str)) = false := by decide) : PE X (.Name x pos) (tVar i) :=
  pe_var (by rw [hN]; exact h1) (.inl (by rw [hs]; exact h2)) h3 h4
theorem hgl (sc : Scope) (hs : X.env.scope = sc) {x : Str} (h : sc.names.lookup x = some .globalImplicit := by rfl) : Gl X x := by
  show X.env.scope.names.lookup x = _
  rw [hs]
  exact h
theorem der_pick (C : XS X Φ gk k) (hN : X.N = pickN) (hs : X.env.scope = defScope t_w_pick) : PSs X (defBody t_w_pick) (pk0 X.w X.K) := by
  have hu : X.A.units + 1 < cLine := hu_of C.c.rk.r
  have xr : XR X := C.c.xr
  have gi : Gl X "int" := hgl _ hs
  have mi : X.mg "int" = none := C.c.bl "int" (by decide)
  have gl : Gl X "len" := hgl _ hs
  have ml : X.mg "len" = none := C.c.bl "len" (by decide)
  have st : ∀ (i : Nat) {x : Str} {e : Expr} {te : TE} {p pos : Pos}, pickN[i]? = some x → (defScope t_w_pick).names.lookup x = some .local → PE X e te → swapsWith e (some (.Name x p)) pos.line X.env = pure false → PS X (.Assign [.Name x p] e pos) (tAsg te (gName i)) :=
    fun i x e te p pos h1 h2 he h3 => ps_set C.c.nd (by rw [hN]; exact h1) (.inl (by rw [hs]; exact h2)) he h3 (.inl (C.fn _))
  refine pss_cons (ps_if (pt_cmp (pc_lt (hvar _ _ hN hs 1) pe_int)) (pss_one (ps_ret pe_int)) pss_nil) ?_
  refine pss_cons (st 2 rfl rfl (pe_dget hu (hvar _ _ hN hs 0) pe_str (fun _ _ => rfl)) (by rfl)) ?_
  refine pss_cons (ps_while C.po (PW.pt (pw_and (pt_cmp (pc_lt (pe_dget hu (hvar _ _ hN hs 0) pe_str (fun _ _ => rfl)) pe_int)) (pw_and1 (pt_cmp (pc_gt (pe_callB call_len_seq gl ml rfl (pa_cons (hvar _ _ hN hs 2) pa_nil)) pe_int))))) (pss_one (ps_dput hu (hvar _ _ hN hs 0) pe_str (pe_bm0 PySem.F.plainAttrs_list PySem.F.slot_list_pop PySem.F.type_list_pop mt_pop (hvar _ _ hN hs 2)) (by rfl)))) ?_
  refine pss_cons (st 3 rfl rfl (pe_dget hu (hvar _ _ hN hs 0) pe_str (fun _ _ => rfl)) (by rfl)) ?_
  have int1 : ∀ {e : Expr} {te : TE} {p pos : Pos}, PE X e te → starEach [e] X.env = (false, eval e X.env) :: starEach [] X.env → PE X (.Call (.Name "int" p) [e] [] pos) (tInt1 X.w te) := fun he h => pe_callTy (call_b1 xr .int) gi mi rfl (pa_cons he pa_nil h) (by decide) (by decide) h rfl
  refine pss_cons (ps_if (pt_cmp (pc_gt (hvar _ _ hN hs 3) pe_int)) (pss_cons (ps_dput hu (hvar _ _ hN hs 0) pe_str (pe_op op_fdivW (hvar _ _ hN hs 3) (hvar _ _ hN hs 1)) (by rfl)) (pss_one (ps_ret (pe_op op_mod (int1 (hvar _ _ hN hs 3) rfl) (hvar _ _ hN hs 1))))) pss_nil) ?_
  refine pss_cons (ps_dput hu (hvar _ _ hN hs 0) pe_str (pe_op op_add (pe_dget hu (hvar _ _ hN hs 0) pe_str (fun _ _ => rfl)) pe_int) (by rfl)) ?_
  refine pss_cons (st 4 rfl rfl (pe_dget hu (hvar _ _ hN hs 0) pe_str (fun _ _ => rfl)) (by rfl)) ?_
  refine pss_cons (st 5 rfl rfl (pe_op op_mod (int1 (pe_op op_add (pe_dget hu (hvar _ _ hN hs 0) pe_str (fun _ _ => rfl)) (pe_op op_mul (hvar _ _ hN hs 4) pe_int)) rfl) pe_int) (by rfl)) ?_
  refine pss_cons (st 5 rfl rfl (pe_op op_mod (int1 (pe_op op_add (pe_op op_mul (hvar _ _ hN hs 5) (hvar _ _ hN hs 5)) (pe_op op_mul (hvar _ _ hN hs 4) pe_int)) rfl) pe_int) (by rfl)) ?_
  exact pss_one (ps_ret (pe_op op_mod (int1 (pe_op op_fdivW (hvar _ _ hN hs 5) pe_int) rfl) (hvar _ _ hN hs 1)))
end
end Os
end
section
set_option linter.all false
set_option maxRecDepth 100000
set_option maxHeartbeats 4000000
/-! K11r: _law_any_order, _law_open_cells. -/
namespace Os
open PySem PySem.Spec PySem.Calls PyProof.Rows L2
section
variable {X : Cx} {Φ : Fs} {gk : List (Str × D)} {k : Nat}
theorem hvis (N : List Str) (sc : Scope) (hN : X.N = N) (hs : X.env.scope = sc) (i : Nat) {x : Str} {pos : Pos} (h1 : N[i]? = some x := by rfl) (h2 : Vis sc x := by first | exact Or.inl rfl | exact Or.inr (Or.inl rfl) | exact Or.inr (Or.inr rfl)) (h3 : (x == ("__debug__" : Str)) = false := by decide) (h4 : (x == ("__classdict__" : Str)) = false := by decide) : PE X (.Name x pos) (tVar i) :=
  pe_var (by rw [hN]; exact h1) (by rw [hs]; exact h2) h3 h4
/-- the scope of the comprehension that is returned -/
def ocs (st : Stmt) : Scope := match (defBody st).getD 1 (.Pass ⟨0, 0, 0, 0⟩) with
  | .Return (some (.ListComp _ _ sc _)) _ => sc
  | _ => { kind := .function, names := [], isGenerator := false, isCoroutine := false }
theorem der_order (C : XS X Φ gk k) (hP : pickF ∈ Φ.l) (hN : X.N = orderN) (hs : X.env.scope = defScope t_w_any_order) : PSs X (defBody t_w_any_order) (od0 X.w X.K) := by
  have xr : XR X := C.c.xr
  have gi : Gl X "list" := hgl _ hs
  have mi : X.mg "list" = none := C.c.bl "list" (by decide)
  have ml : X.mg "len" = none := C.c.bl "len" (by decide)
  have gl : Gl X "len" := hgl _ hs
  have gr : Gl X "range" := hgl _ hs
  have mr : X.mg "range" = none := C.c.bl "range" (by decide)
  refine pss_cons (ps_set (i := 2) C.c.nd (by rw [hN]; rfl) (.inr (by rw [hs]; rfl)) (pe_callTy (call_b1 xr .list) gi mi rfl (pa_cons (hvis _ _ hN hs 1) pa_nil)) (by rfl) (.inl (C.fn _))) ?_
  obtain ⟨f, fd, ps, g1, g2, g3, g4, g5⟩ := C.c.fns pickF hP
  have hb : blkC X.N X.env.scope (ocs t_w_any_order) [(("_law_lap" : Str), 3)] = true := by
    rw [hN, hs]
    decide +kernel
  refine pss_one (ps_ret (pe_lc (own := [(("_law_lap" : Str), 3)]) C.c.calm C.c.nd (pi_range1 gr mr (pa_cons (pe_callB call_len_seq gl ml rfl (pa_cons (hvis _ _ hN hs 2) pa_nil)) pa_nil)) (blkOk_by hb) (fun s H C1 cl fp => ?_) (fun s H C1 cl fp => ?_) (fun s H C1 cl fp => ?_)))
  · exact pg_name (i := 3) C.c.nd (by show X.N[3]? = _; rw [hN]; rfl) (.inl rfl)
  · exact pts_nil
  · have hN2 : (X.blk s H (ocs t_w_any_order) (compEnvC (ocs t_w_any_order) cl C1 X.env) fp).N = orderN := hN
    have hs2 : (X.blk s H (ocs t_w_any_order) (compEnvC (ocs t_w_any_order) cl C1 X.env) fp).env.scope = relS (ocs t_w_any_order) (defScope t_w_any_order) := by
      show relS (ocs t_w_any_order) X.env.scope = _
      rw [hs]
    exact pe_bm PySem.F.plainAttrs_list PySem.F.slot_list_pop PySem.F.type_list_pop mt_popAt (hvis _ _ hN2 hs2 2) (pa_cons (pe_fn (g5.imp (sp' := spF X.w [] pickF) fun _ _ _ _ h => spF_any rfl h) C.c.rk (hgl _ hs2) g1 g2 g3 (pa_cons (hvis _ _ hN2 hs2 0) (pa_cons (pe_callB call_len_seq (hgl _ hs2) ml rfl (pa_cons (hvis _ _ hN2 hs2 2) pa_nil)) pa_nil)) (by decide) (by rfl) (fun y hy => by rw [List.mem_singleton.mp (show y ∈ [(false, _)] from hy)])) pa_nil)
end
end Os
end
section
set_option linter.all false
set_option maxRecDepth 100000
set_option maxHeartbeats 4000000
/-! K11s: _law_open_cells. -/
namespace Os
open PySem PySem.Spec PySem.Calls PyProof.Rows L2
section
variable {X : Cx} {Φ : Fs} {gk : List (Str × D)} {k : Nat}
/-- the scope of the comprehension that is the i-th statement's value -/
def acs (st : Stmt) (i : Nat) : Scope := match (defBody st).getD i (.Pass ⟨0, 0, 0, 0⟩) with
  | .Assign _ (.ListComp _ _ sc _) _ => sc
  | _ => { kind := .function, names := [], isGenerator := false, isCoroutine := false }
theorem der_open (C : XS X Φ gk k) (hN : X.N = openN) (hs : X.env.scope = defScope t_w_open_cells) : PSs X (defBody t_w_open_cells) (op0 X.w X.K) := by
  have xr : XR X := C.c.xr
  have gi : Gl X "int" := hgl _ hs
  have mi : X.mg "int" = none := C.c.bl "int" (by decide)
  have ma : X.mg "abs" = none := C.c.bl "abs" (by decide)
  have int1 : ∀ {e : Expr} {te : TE} {p pos : Pos}, PE X e te → starEach [e] X.env = (false, eval e X.env) :: starEach [] X.env → PE X (.Call (.Name "int" p) [e] [] pos) (tInt1 X.w te) := fun he h => pe_callTy (call_b1 xr .int) gi mi rfl (pa_cons he pa_nil h) (by decide) (by decide) h rfl
  refine pss_cons (ps_set (i := 1) C.c.nd (by rw [hN]; rfl) (.inl (by rw [hs]; rfl)) pe_int (by rfl) (.inl (C.fn _))) ?_
  refine pss_cons (ps_for C.po C.c.calm (pi_list (hvis _ _ hN hs 0)) (pg_name (i := 2) C.c.nd (by rw [hN]; rfl) (.inl (by rw [hs]; rfl)) (.inl (C.fn _)))
    (pss_one (ps_set (i := 1) C.c.nd (by rw [hN]; rfl) (.inl (by rw [hs]; rfl)) (pe_op op_mod (int1 (pe_op op_add (pe_op op_add (pe_op op_mul (hvis _ _ hN hs 1) pe_int) (pe_op op_mul (hvis _ _ hN hs 2) pe_int)) pe_int) rfl) pe_int) (by rfl) (.inl (C.fn _))))) ?_
  have hb : blkC X.N X.env.scope (acs t_w_open_cells 2) [(("_law_cell" : Str), 2)] = true := by
    rw [hN, hs]
    decide +kernel
  have h2 : X.env.scope.names.lookup ("_law_cells" : Str) = some .local := by
    rw [hs]
    rfl
  refine pss_cons (t := tAsg (tLc (iList X.K (tVar 0)) (gName 2) tYes (tCB (rB1N X.w .abs) (tCons (tVar 2) tNil)) [2]) (gName 3)) (u := op3 X.K) (PS.mk fun pins s σ H D I h => (ps_setLc (i := 3) (own := [(("_law_cell" : Str), 2)]) C.c.calm C.c.nd (by rw [hN]; rfl) h2 (sw_true I.ok.kind h2 rfl rfl) (pi_list (hvis _ _ hN hs 0)) (blkOk_by hb) (fun s H C1 cl fp => pg_name (i := 2) C.c.nd (by show X.N[2]? = _; rw [hN]; rfl) (.inl rfl)) (fun s H C1 cl fp => pts_nil) (fun s H C1 cl fp => ?_)).run pins s σ H D I h) ?_
  · have hN2 : (X.blk s H (acs t_w_open_cells 2) (compEnvC (acs t_w_open_cells 2) cl C1 X.env) fp).N = openN := hN
    have hs2 : (X.blk s H (acs t_w_open_cells 2) (compEnvC (acs t_w_open_cells 2) cl C1 X.env) fp).env.scope = relS (acs t_w_open_cells 2) (defScope t_w_open_cells) := by
      show relS (acs t_w_open_cells 2) X.env.scope = _
      rw [hs]
    exact pe_callB (call_b1 C.c.blk.xr .abs) (hgl _ hs2) ma rfl (pa_cons (hvis _ _ hN2 hs2 2) pa_nil)
  · exact pss_one (ps_ret (pe_disp (pps_cons pe_str (pe_revL (hvis _ _ hN hs 3)) (pps_cons pe_str pe_int (pps_cons pe_str (hvis _ _ hN hs 1) (pps_cons pe_str pe_int pps_nil)))) rfl rfl (by simp) (by decide)))
end
end Os
end
section
set_option linter.all false
set_option maxRecDepth 100000
set_option maxHeartbeats 4000000
/-! K11t: the law's def. -/
namespace Os
open PySem PySem.Spec PySem.Calls PyProof.Rows L2
/-- what the law does, whatever is drawn -/
def LawRuns : Prop := ∀ S : Src, ∃ S', runs F_25 M_law (.un :: .src :: List.replicate (N_law.length - 2) .un) (some S) = some (.rt (.bool true) S')
def spLaw (K : PySem.W.Frag) (T : List (Addr × Str)) : Sp := fun vs H Q _ => ∃ (a : Addr) (ns : List Int), vs = [.ref a] ∧ SqL K H a (ns.map V.int) ∧ ns.length ≤ sizeLine ∧ LamX.Tabs T H ∧ ∀ H', Q (.bl true) H'
theorem S_law2 : FnScope N_law ["_law_script"] (defScope t_law) := ⟨rfl, rfl, rfl, by decide +kernel, rfl, by decide +kernel, by decide +kernel⟩
section
variable {P : Program} {w : World} {K : PySem.W.Frag} {mg : Str → Option Value} {base : Heap} {f fo : Addr} {fd fdo : FuncData} {T : List (Addr × Str)}
theorem ok_law {k : Nat} (LR : LawRuns) (M : MF P w K mg base T F_25 gkL k) (Fd : Fun K "law" "law" t_law f fd) (Fo : FnG P w K mg base k fo fdo ["_law_script"] (spOpen K)) (go : mg "_law_open_cells" = some (.ref fo)) (ko : PySem.W.keepIn K (.ref fo) = true) (bo : Binds K fdo ["_law_script"] []) :
    FnG P w K mg base (k + 2) f fd ["_law_script"] (spLaw K T) := by
  refine fnG_body Fd S_law2 (fun vs H Q E ⟨a, ns, h, _⟩ => by rw [h]; rfl) fun cdv _ A outer s0 H vs Q E room ⟨a, ns, hv, sq, hl, tb, q⟩ => ?_
  have C : XC (cxOf CX0 P w K mg base N_law "law" (defScope t_law) f cdv A outer s0 H E) ⟨T, F_25, false⟩ gkL k := ⟨rfl, room, S_law2.nd, M.bl, M.fns, M.gks, fun z => nomatch z⟩
  have XSo : XS (cxOf CX0 P w K mg base N_law "law" (defScope t_law) f cdv A outer s0 H E) ⟨T, F_25, false⟩ gkL k := ⟨C, fun _ => rfl, passes_of rfl⟩
  refine ⟨tSeq (tAsg (fun σ H Q => tCons (tVar 0) tNil σ H fun vs H1 => spOpen K vs H1 Q E0) (gName 1)) (tSs w ⟨T, F_25, false⟩ M_law), ?_, ?_⟩
  · exact pss_cons (ps_set (i := 1) S_law2.nd rfl (by first | exact Or.inl rfl | exact Or.inr rfl) (pe_fn Fo C.rk rfl go ko bo (pa_cons (pv 0) pa_nil) (by decide) (by rfl) (fun y hy => nomatch hy)) (by rfl) (.inl rfl)) (sndSs T_law _ XSo rfl rfl)
  · subst hv
    refine ⟨.ref a, rfl, a, ns, rfl, sq, hl, fun b c H' sm hb hc hne e1 e2 => ?_⟩
    obtain ⟨S', hr⟩ := LR (openS ns)
    have sr : SrcR (⟨some (b, c)⟩ : GS T) H' (some (openS ns)) := ⟨⟨e1, e2⟩, tb.ext fun b o e => sm b o e⟩
    refine ⟨⟨some (b, c)⟩, fun _ => False, H', fun _ => False, fun _ => [], .un :: .src :: List.replicate (N_law.length - 2) .un, some (openS ns), _, ⟨⟨_, sr⟩, fun _ z => z.elim, fun _ z => z.elim, Keep.refl, sr, rfl, fun i x e => ?_, fun i b hb => (nomatch hb), fun i j b hb => (nomatch hb), fun i b hb => (nomatch hb), fun b z => z.elim⟩, hr, fun v H1 p _ => ?_⟩
    · match i, e with
      | 0, e => cases e; exact trivial
      | 1, e => cases e; exact ⟨b, c, rfl, rfl⟩
      | n + 2, e =>
        have e' : (List.replicate (N_law.length - 2) SS.un)[n]? = some x := by simpa using e
        rw [List.getElem?_replicate] at e'
        split at e'
        · cases e'
          exact trivial
        · cases e'
    · have hv := p.dat
      cases hv
      exact q H1
end
end Os
end
section
set_option linter.all false
set_option maxRecDepth 100000
set_option maxHeartbeats 0
/-! K11h: the head. -/
namespace Os
open PySem PySem.Spec PyProof.Rows L2
def gloL : List He.Fa := [.glo "is_integer_values", .glo "is_value", .glo "rank", .glo "is_how", .glo "is_integer_sums", .glo "is_tally", .glo "empty", .glo "listed", .glo "add", .glo "add_all", .glo "joined", .glo "both", .glo "less", .glo "tell", .glo "_law_rank", .glo "_law_open_cells", .glo "_law_pick", .glo "_law_any_order", .glo "_law_draw_given_value", .glo "_law_tally", .glo "_law_tell", .glo "_law_draw_pairs", .glo "_law_is_given", .glo "_law_is_due", .glo "_law_near", .glo "_law_made_right", .glo "law"]
def gkF : List He.Fa := [.str "SIGNS" "abcdefghijklmnopqrstuvwxyzABCDEFGHIJKLMNOPQRSTUVWXYZ0123456789 -_", .glo "HOWS"]
def faL : List He.Fa := gloL ++ (bNames.map He.Fa.free ++ gkF)
def fnL : List He.DefD := [ddA "is_integer_values" "is_integer" t_is_integer_values, dd "is_value" t_is_value, dd "rank" t_rank, dd "is_how" t_is_how, ddA "is_integer_sums" "is_integer" t_is_integer_sums, dd "is_tally" t_is_tally, dd "empty" t_empty, dd "listed" t_listed, dd "add" t_add, dd "add_all" t_add_all, dd "joined" t_joined, dd "both" t_both, dd "less" t_less, dd "tell" t_tell, dd "_law_rank" t_w_rank, dd "_law_open_cells" t_w_open_cells, dd "_law_pick" t_w_pick, dd "_law_any_order" t_w_any_order, dd "_law_draw_given_value" t_w_draw_given_value, dd "_law_tally" t_w_tally, dd "_law_tell" t_w_tell, dd "_law_draw_pairs" t_w_draw_pairs, dd "_law_is_given" t_w_is_given, dd "_law_is_due" t_w_is_due, dd "_law_near" t_w_near, dd "_law_made_right" t_w_made_right, dd "law" t_law]
def tfL : List He.Defn := []
def exL : PySem.W.Frag → Bool := fun K => decide (tfL.map fun p => (He.cT K p).2).Nodup && (true && tupOkK K "HOWS" [.str "count", .str "sum", .str "least", .str "greatest"])
abbrev R : PySem.W.OpenRow := PySem.W.OpenLaw.row PySem.Challenge.rw_oncestream_k11_tallies
abbrev hk : PySem.W.Hook := He.hookX 4 faL fnL [] tfL exL
def ob (s : PySem.W.SharedT) : He.AlX := He.obsX 4 faL fnL [] tfL exL (HandSHeadRun.getT s)
theorem ob_eq (s : PySem.W.SharedT) : ob s = hk.obs s.abs := He.obsX_eq (HandSHeadRun.getT_eq s)
def nmL : List Str := (["SIGNS", "is_integer", "is_integer_values", "is_value", "rank", "HOWS", "is_how", "is_integer_sums", "is_tally", "empty", "listed", "add", "add_all", "joined", "both", "less", "tell", "_law_rank", "_law_open_cells", "_law_pick", "_law_any_order", "_law_draw_given_value", "_law_tally", "_law_tell"] : List Str) ++ (["_law_draw_pairs", "_law_is_given", "_law_is_due", "_law_near", "_law_made_right"] : List Str)
theorem head_run (w : World) : HandSHeadRun.RunEq R (PySem.W.view R.prog [33]) hk ob 2000 nmL w := by
  intro os
  kernel_rfl
end Os
end
section
set_option linter.all false
set_option maxRecDepth 100000
set_option maxHeartbeats 0
/-! K11u: the assembly. -/
namespace Os
open PySem PySem.Spec PySem.Calls PyProof.Rows L2
theorem S_pick : FnScope pickN ["_law_source", "_law_most"] (defScope t_w_pick) := ⟨rfl, rfl, rfl, by decide +kernel, rfl, by decide +kernel, by decide +kernel⟩
theorem S_order : FnScope orderN ["_law_source", "_law_things"] (defScope t_w_any_order) := ⟨rfl, rfl, rfl, by decide +kernel, rfl, by decide +kernel, by decide +kernel⟩
theorem S_open : FnScope openN ["_law_script"] (defScope t_w_open_cells) := ⟨rfl, rfl, rfl, by decide +kernel, rfl, by decide +kernel, by decide +kernel⟩
theorem facts {P : Program} {w : World} {K : PySem.W.Frag} {h : Heap} {mg : Str → Option Value} {f : Addr} {n : Nat} (hn : n ≤ sizeLine) (LR : LawRuns) (X : K.In h) (G : h.Ns mainGlobals mg) (hfa : mg ("law" : Str) = some (.ref f)) (c : He.SaysX faL fnL [] tfL exL w h K) : LawG P w K 82 n "_law_script" mg f h := by
  have d := c.t.d
  have glo : ∀ x, He.Fa.glo x ∈ gloL → mg x = some (.ref (He.ga K x)) := fun x hx => He.glo_ok X G (d.facts (f := .glo x) (List.mem_append_left _ hx))
  have bl : ∀ x ∈ bNames, mg x = none := fun x hx => He.free_ok X G (d.facts (f := .free x) (List.mem_append_right _ (List.mem_append_left _ (List.mem_map.mpr ⟨x, hx, rfl⟩))))
  obtain ⟨fd_is_integer_values, Fu_is_integer_values⟩ := fun_ddA (al := "is_integer_values") (x := "is_integer") (st := t_is_integer_values) d 0 rfl
  have g_is_integer_values := glo "is_integer_values" (by simp [gloL])
  have b_is_integer_values := Fu_is_integer_values.binds (ps := ["value"]) fun _ _ _ _ _ _ us hl => match us, hl with | [_], _ => rfl
  obtain ⟨fd_is_value, Fu_is_value⟩ := fun_dd (x := "is_value") (st := t_is_value) d 1 rfl
  have g_is_value := glo "is_value" (by simp [gloL])
  have b_is_value := Fu_is_value.binds (ps := ["value"]) fun _ _ _ _ _ _ us hl => match us, hl with | [_], _ => rfl
  obtain ⟨fd_rank, Fu_rank⟩ := fun_dd (x := "rank") (st := t_rank) d 2 rfl
  have g_rank := glo "rank" (by simp [gloL])
  have b_rank := Fu_rank.binds (ps := ["value"]) fun _ _ _ _ _ _ us hl => match us, hl with | [_], _ => rfl
  obtain ⟨fd_is_how, Fu_is_how⟩ := fun_dd (x := "is_how") (st := t_is_how) d 3 rfl
  have g_is_how := glo "is_how" (by simp [gloL])
  have b_is_how := Fu_is_how.binds (ps := ["value"]) fun _ _ _ _ _ _ us hl => match us, hl with | [_], _ => rfl
  obtain ⟨fd_is_integer_sums, Fu_is_integer_sums⟩ := fun_ddA (al := "is_integer_sums") (x := "is_integer") (st := t_is_integer_sums) d 4 rfl
  have g_is_integer_sums := glo "is_integer_sums" (by simp [gloL])
  have b_is_integer_sums := Fu_is_integer_sums.binds (ps := ["value"]) fun _ _ _ _ _ _ us hl => match us, hl with | [_], _ => rfl
  obtain ⟨fd_is_tally, Fu_is_tally⟩ := fun_dd (x := "is_tally") (st := t_is_tally) d 5 rfl
  have g_is_tally := glo "is_tally" (by simp [gloL])
  have b_is_tally := Fu_is_tally.binds (ps := ["how", "value"]) fun _ _ _ _ _ _ us hl => match us, hl with | [_, _], _ => rfl
  obtain ⟨fd_empty, Fu_empty⟩ := fun_dd (x := "empty") (st := t_empty) d 6 rfl
  have g_empty := glo "empty" (by simp [gloL])
  have b_empty := Fu_empty.binds (ps := ["how"]) fun _ _ _ _ _ _ us hl => match us, hl with | [_], _ => rfl
  obtain ⟨fd_listed, Fu_listed⟩ := fun_dd (x := "listed") (st := t_listed) d 7 rfl
  have g_listed := glo "listed" (by simp [gloL])
  have b_listed := Fu_listed.binds (ps := ["found"]) fun _ _ _ _ _ _ us hl => match us, hl with | [_], _ => rfl
  obtain ⟨fd_add, Fu_add⟩ := fun_dd (x := "add") (st := t_add) d 8 rfl
  have g_add := glo "add" (by simp [gloL])
  have b_add := Fu_add.binds (ps := ["how", "tally", "given", "sign"]) fun _ _ _ _ _ _ us hl => match us, hl with | [_, _, _, _], _ => rfl
  obtain ⟨fd_add_all, Fu_add_all⟩ := fun_dd (x := "add_all") (st := t_add_all) d 9 rfl
  have g_add_all := glo "add_all" (by simp [gloL])
  have b_add_all := Fu_add_all.binds (ps := ["how", "tally", "pairs"]) fun _ _ _ _ _ _ us hl => match us, hl with | [_, _, _], _ => rfl
  obtain ⟨fd_joined, Fu_joined⟩ := fun_dd (x := "joined") (st := t_joined) d 10 rfl
  have g_joined := glo "joined" (by simp [gloL])
  have b_joined := Fu_joined.binds (ps := ["how", "one", "other", "times"]) fun _ _ _ _ _ _ us hl => match us, hl with | [_, _, _, _], _ => rfl
  obtain ⟨fd_both, Fu_both⟩ := fun_dd (x := "both") (st := t_both) d 11 rfl
  have g_both := glo "both" (by simp [gloL])
  have b_both := Fu_both.binds (ps := ["how", "one", "other"]) fun _ _ _ _ _ _ us hl => match us, hl with | [_, _, _], _ => rfl
  obtain ⟨fd_less, Fu_less⟩ := fun_dd (x := "less") (st := t_less) d 12 rfl
  have g_less := glo "less" (by simp [gloL])
  have b_less := Fu_less.binds (ps := ["how", "one", "other"]) fun _ _ _ _ _ _ us hl => match us, hl with | [_, _, _], _ => rfl
  obtain ⟨fd_tell, Fu_tell⟩ := fun_dd (x := "tell") (st := t_tell) d 13 rfl
  have g_tell := glo "tell" (by simp [gloL])
  have b_tell := Fu_tell.binds (ps := ["how", "tally"]) fun _ _ _ _ _ _ us hl => match us, hl with | [_, _], _ => rfl
  obtain ⟨fd_w_rank, Fu_w_rank⟩ := fun_dd (x := "_law_rank") (st := t_w_rank) d 14 rfl
  have g_w_rank := glo "_law_rank" (by simp [gloL])
  have b_w_rank := Fu_w_rank.binds (ps := ["_law_value"]) fun _ _ _ _ _ _ us hl => match us, hl with | [_], _ => rfl
  obtain ⟨fd_w_open_cells, Fu_w_open_cells⟩ := fun_dd (x := "_law_open_cells") (st := t_w_open_cells) d 15 rfl
  have g_w_open_cells := glo "_law_open_cells" (by simp [gloL])
  have b_w_open_cells := Fu_w_open_cells.binds (ps := ["_law_script"]) fun _ _ _ _ _ _ us hl => match us, hl with | [_], _ => rfl
  obtain ⟨fd_w_pick, Fu_w_pick⟩ := fun_dd (x := "_law_pick") (st := t_w_pick) d 16 rfl
  have g_w_pick := glo "_law_pick" (by simp [gloL])
  have b_w_pick := Fu_w_pick.binds (ps := ["_law_source", "_law_most"]) fun _ _ _ _ _ _ us hl => match us, hl with | [_, _], _ => rfl
  obtain ⟨fd_w_any_order, Fu_w_any_order⟩ := fun_dd (x := "_law_any_order") (st := t_w_any_order) d 17 rfl
  have g_w_any_order := glo "_law_any_order" (by simp [gloL])
  have b_w_any_order := Fu_w_any_order.binds (ps := ["_law_source", "_law_things"]) fun _ _ _ _ _ _ us hl => match us, hl with | [_, _], _ => rfl
  obtain ⟨fd_w_draw_given_value, Fu_w_draw_given_value⟩ := fun_dd (x := "_law_draw_given_value") (st := t_w_draw_given_value) d 18 rfl
  have g_w_draw_given_value := glo "_law_draw_given_value" (by simp [gloL])
  have b_w_draw_given_value := Fu_w_draw_given_value.binds (ps := ["_law_source", "_law_kind"]) fun _ _ _ _ _ _ us hl => match us, hl with | [_, _], _ => rfl
  obtain ⟨fd_w_tally, Fu_w_tally⟩ := fun_dd (x := "_law_tally") (st := t_w_tally) d 19 rfl
  have g_w_tally := glo "_law_tally" (by simp [gloL])
  have b_w_tally := Fu_w_tally.binds (ps := ["_law_how", "_law_pairs"]) fun _ _ _ _ _ _ us hl => match us, hl with | [_, _], _ => rfl
  obtain ⟨fd_w_tell, Fu_w_tell⟩ := fun_dd (x := "_law_tell") (st := t_w_tell) d 20 rfl
  have g_w_tell := glo "_law_tell" (by simp [gloL])
  have b_w_tell := Fu_w_tell.binds (ps := ["_law_how", "_law_tally_here"]) fun _ _ _ _ _ _ us hl => match us, hl with | [_, _], _ => rfl
  obtain ⟨fd_w_draw_pairs, Fu_w_draw_pairs⟩ := fun_dd (x := "_law_draw_pairs") (st := t_w_draw_pairs) d 21 rfl
  have g_w_draw_pairs := glo "_law_draw_pairs" (by simp [gloL])
  have b_w_draw_pairs := Fu_w_draw_pairs.binds (ps := ["_law_source", "_law_how", "_law_most"]) fun _ _ _ _ _ _ us hl => match us, hl with | [_, _, _], _ => rfl
  obtain ⟨fd_w_is_given, Fu_w_is_given⟩ := fun_dd (x := "_law_is_given") (st := t_w_is_given) d 22 rfl
  have g_w_is_given := glo "_law_is_given" (by simp [gloL])
  have b_w_is_given := Fu_w_is_given.binds (ps := ["_law_value"]) fun _ _ _ _ _ _ us hl => match us, hl with | [_], _ => rfl
  obtain ⟨fd_w_is_due, Fu_w_is_due⟩ := fun_dd (x := "_law_is_due") (st := t_w_is_due) d 23 rfl
  have g_w_is_due := glo "_law_is_due" (by simp [gloL])
  have b_w_is_due := Fu_w_is_due.binds (ps := ["_law_how", "_law_value"]) fun _ _ _ _ _ _ us hl => match us, hl with | [_, _], _ => rfl
  obtain ⟨fd_w_near, Fu_w_near⟩ := fun_dd (x := "_law_near") (st := t_w_near) d 24 rfl
  have g_w_near := glo "_law_near" (by simp [gloL])
  have b_w_near := Fu_w_near.binds (ps := ["_law_source", "_law_tally_here"]) fun _ _ _ _ _ _ us hl => match us, hl with | [_, _], _ => rfl
  obtain ⟨fd_w_made_right, Fu_w_made_right⟩ := fun_dd (x := "_law_made_right") (st := t_w_made_right) d 25 rfl
  have g_w_made_right := glo "_law_made_right" (by simp [gloL])
  have b_w_made_right := Fu_w_made_right.binds (ps := ["_law_source", "_law_how"]) fun _ _ _ _ _ _ us hl => match us, hl with | [_, _], _ => rfl
  obtain ⟨fd_law, Fu_law⟩ := fun_dd (x := "law") (st := t_law) d 26 rfl
  have g_law := glo "law" (by simp [gloL])
  have b_law := Fu_law.binds (ps := ["_law_script"]) fun _ _ _ _ _ _ us hl => match us, hl with | [_], _ => rfl
  have e := hfa.symm.trans g_law
  cases e
  have nd : (tfL.map fun p => (He.cT K p).2).Nodup := of_decide_eq_true (Bool.and_eq_true_iff.mp c.more).1
  have bindL : ∀ (s : Shared) (u : Value), BindsTo s fd_law ⟨[u], []⟩ [("_law_script", u)] := by
    intro s u
    obtain ⟨_, _, _, _, _, _, _, _, _, rfl, _⟩ := Fu_law.ex
    exact .of_eq rfl
  refine ⟨fd_law, tfL.map (He.cT K), spLaw K (tabT K tfL), fun p hp => ?_, fun p hp => ?_, fun p hp => ?_, bindL, fun H a ns hl hT hS => ⟨a, ns, rfl, hS, Nat.le_trans hl hn, tabs_start hT, fun _ => rfl⟩, fun base _ _ tb => ?_⟩
  · obtain ⟨p0, h0, rfl⟩ := List.mem_map.mp hp
    exact c.empty p0 h0
  · obtain ⟨p0, h0, rfl⟩ := List.mem_map.mp hp
    exact c.out p0 h0
  · obtain ⟨p0, h0, rfl⟩ := List.mem_map.mp hp
    exact PySem.W.codeHd_of_K X (c.hd p0 h0)
  have gks : ∀ p ∈ gkL, ∃ u v, mg p.1 = some u ∧ L2.RelV v u ∧ glV K v p.2 := by
    intro p hp
    simp only [gkL, List.mem_cons, List.not_mem_nil, or_false] at hp
    rcases hp with rfl | rfl
    · obtain ⟨t, ht⟩ := He.str_ok X G (d.facts (f := .str "SIGNS" "abcdefghijklmnopqrstuvwxyzABCDEFGHIJKLMNOPQRSTUVWXYZ0123456789 -_") (List.mem_append_right _ (List.mem_append_right _ (by simp [gkF]))))
      exact ⟨_, .str _, ht, ⟨_, rfl⟩, .inl rfl⟩
    · refine ⟨_, .ref (He.ga K "HOWS"), He.glo_ok X G (d.facts (f := .glo "HOWS") (List.mem_append_right _ (List.mem_append_right _ (by simp [gkF])))), rfl, .inr (tupOk_gl (x := "HOWS") (xs := [.str "count", .str "sum", .str "least", .str "greatest"]) ?_)⟩
      have h := (Bool.and_eq_true_iff.mp c.more).2
      simp only [Bool.true_and, Bool.and_eq_true] at h
      first | exact h | exact h.1 | exact h.2
  have M00 : MF P w K mg base (tabT K tfL) F_00 gkL 5 := ⟨bl, fun F hF => (nomatch hF), gks⟩
  have G_is_integer_values := fn_rule (w := w) (F := E_is_integer_values) M00 Fu_is_integer_values S_is_integer_values T_is_integer_values rfl rfl (by first | (intro h; exact (by decide +kernel)) | (intro h; cases h)) (.inl ⟨rfl, rfl, rfl⟩)
  have M01 : MF P w K mg base (tabT K tfL) F_01 gkL 8 := M00.push (Nat.le_add_right _ 3) g_is_integer_values Fu_is_integer_values.kp b_is_integer_values rfl G_is_integer_values
  have G_is_value := fn_rule (w := w) (F := E_is_value) M01 Fu_is_value S_is_value T_is_value rfl rfl (by first | (intro h; exact (by decide +kernel)) | (intro h; cases h)) (.inl ⟨rfl, rfl, rfl⟩)
  have M02 : MF P w K mg base (tabT K tfL) F_02 gkL 11 := M01.push (Nat.le_add_right _ 3) g_is_value Fu_is_value.kp b_is_value rfl G_is_value
  have G_rank := fn_rule (w := w) (F := E_rank) M02 Fu_rank S_rank T_rank rfl rfl (by first | (intro h; exact (by decide +kernel)) | (intro h; cases h)) (.inl ⟨rfl, rfl, rfl⟩)
  have M03 : MF P w K mg base (tabT K tfL) F_03 gkL 14 := M02.push (Nat.le_add_right _ 3) g_rank Fu_rank.kp b_rank rfl G_rank
  have G_is_how := fn_rule (w := w) (F := E_is_how) M03 Fu_is_how S_is_how T_is_how rfl rfl (by first | (intro h; exact (by decide +kernel)) | (intro h; cases h)) (.inl ⟨rfl, rfl, rfl⟩)
  have M04 : MF P w K mg base (tabT K tfL) F_04 gkL 17 := M03.push (Nat.le_add_right _ 3) g_is_how Fu_is_how.kp b_is_how rfl G_is_how
  have G_is_integer_sums := fn_rule (w := w) (F := E_is_integer_sums) M04 Fu_is_integer_sums S_is_integer_sums T_is_integer_sums rfl rfl (by first | (intro h; exact (by decide +kernel)) | (intro h; cases h)) (.inl ⟨rfl, rfl, rfl⟩)
  have M05 : MF P w K mg base (tabT K tfL) F_05 gkL 20 := M04.push (Nat.le_add_right _ 3) g_is_integer_sums Fu_is_integer_sums.kp b_is_integer_sums rfl G_is_integer_sums
  have G_is_tally := fn_rule (w := w) (F := E_is_tally) M05 Fu_is_tally S_is_tally T_is_tally rfl rfl (by first | (intro h; exact (by decide +kernel)) | (intro h; cases h)) (.inl ⟨rfl, rfl, rfl⟩)
  have M06 : MF P w K mg base (tabT K tfL) F_06 gkL 23 := M05.push (Nat.le_add_right _ 3) g_is_tally Fu_is_tally.kp b_is_tally rfl G_is_tally
  have G_empty := fn_rule (w := w) (F := E_empty) M06 Fu_empty S_empty T_empty rfl rfl (by first | (intro h; exact (by decide +kernel)) | (intro h; cases h)) (.inl ⟨rfl, rfl, rfl⟩)
  have M07 : MF P w K mg base (tabT K tfL) F_07 gkL 26 := M06.push (Nat.le_add_right _ 3) g_empty Fu_empty.kp b_empty rfl G_empty
  have G_listed := fn_rule (w := w) (F := E_listed) M07 Fu_listed S_listed T_listed rfl rfl (by first | (intro h; exact (by decide +kernel)) | (intro h; cases h)) (.inl ⟨rfl, rfl, rfl⟩)
  have M08 : MF P w K mg base (tabT K tfL) F_08 gkL 29 := M07.push (Nat.le_add_right _ 3) g_listed Fu_listed.kp b_listed rfl G_listed
  have G_add := fn_rule (w := w) (F := E_add) M08 Fu_add S_add T_add rfl rfl (by first | (intro h; exact (by decide +kernel)) | (intro h; cases h)) (.inl ⟨rfl, rfl, rfl⟩)
  have M09 : MF P w K mg base (tabT K tfL) F_09 gkL 32 := M08.push (Nat.le_add_right _ 3) g_add Fu_add.kp b_add rfl G_add
  have G_add_all := fn_rule (w := w) (F := E_add_all) M09 Fu_add_all S_add_all T_add_all rfl rfl (by first | (intro h; exact (by decide +kernel)) | (intro h; cases h)) (.inl ⟨rfl, rfl, rfl⟩)
  have M10 : MF P w K mg base (tabT K tfL) F_10 gkL 35 := M09.push (Nat.le_add_right _ 3) g_add_all Fu_add_all.kp b_add_all rfl G_add_all
  have G_joined := fn_rule (w := w) (F := E_joined) M10 Fu_joined S_joined T_joined rfl rfl (by first | (intro h; exact (by decide +kernel)) | (intro h; cases h)) (.inl ⟨rfl, rfl, rfl⟩)
  have M11 : MF P w K mg base (tabT K tfL) F_11 gkL 38 := M10.push (Nat.le_add_right _ 3) g_joined Fu_joined.kp b_joined rfl G_joined
  have G_both := fn_rule (w := w) (F := E_both) M11 Fu_both S_both T_both rfl rfl (by first | (intro h; exact (by decide +kernel)) | (intro h; cases h)) (.inl ⟨rfl, rfl, rfl⟩)
  have M12 : MF P w K mg base (tabT K tfL) F_12 gkL 41 := M11.push (Nat.le_add_right _ 3) g_both Fu_both.kp b_both rfl G_both
  have G_less := fn_rule (w := w) (F := E_less) M12 Fu_less S_less T_less rfl rfl (by first | (intro h; exact (by decide +kernel)) | (intro h; cases h)) (.inl ⟨rfl, rfl, rfl⟩)
  have M13 : MF P w K mg base (tabT K tfL) F_13 gkL 44 := M12.push (Nat.le_add_right _ 3) g_less Fu_less.kp b_less rfl G_less
  have G_tell := fn_rule (w := w) (F := E_tell) M13 Fu_tell S_tell T_tell rfl rfl (by first | (intro h; exact (by decide +kernel)) | (intro h; cases h)) (.inl ⟨rfl, rfl, rfl⟩)
  have M14 : MF P w K mg base (tabT K tfL) F_14 gkL 47 := M13.push (Nat.le_add_right _ 3) g_tell Fu_tell.kp b_tell rfl G_tell
  have G_w_rank := fn_rule (w := w) (F := E_w_rank) M14 Fu_w_rank S_w_rank T_w_rank rfl rfl (by first | (intro h; exact (by decide +kernel)) | (intro h; cases h)) (.inl ⟨rfl, rfl, rfl⟩)
  have M15 : MF P w K mg base (tabT K tfL) F_15 gkL 50 := M14.push (Nat.le_add_right _ 3) g_w_rank Fu_w_rank.kp b_w_rank rfl G_w_rank
  have G_w_pick := hand_rule (w := w) (sp := spF w (tabT K tfL) pickF) pk0 M15 Fu_w_pick S_pick (spF_len rfl) (fun X C hN hs => der_pick C hN hs) pick_enter
  have M16 : MF P w K mg base (tabT K tfL) F_16 gkL 52 := M15.push (Nat.le_add_right _ 2) g_w_pick Fu_w_pick.kp b_w_pick rfl G_w_pick
  have G_w_any_order := hand_rule (w := w) (sp := spF w (tabT K tfL) orderF) od0 M16 Fu_w_any_order S_order (spF_len rfl) (fun X C hN hs => der_order C (by simp [F_16]) hN hs) order_enter
  have M17 : MF P w K mg base (tabT K tfL) F_17 gkL 54 := M16.push (Nat.le_add_right _ 2) g_w_any_order Fu_w_any_order.kp b_w_any_order rfl G_w_any_order
  have G_w_draw_given_value := fn_rule (w := w) (F := E_w_draw_given_value) M17 Fu_w_draw_given_value S_w_draw_given_value T_w_draw_given_value rfl rfl (by first | (intro h; exact (by decide +kernel)) | (intro h; cases h)) (.inl ⟨rfl, rfl, rfl⟩)
  have M18 : MF P w K mg base (tabT K tfL) F_18 gkL 57 := M17.push (Nat.le_add_right _ 3) g_w_draw_given_value Fu_w_draw_given_value.kp b_w_draw_given_value rfl G_w_draw_given_value
  have G_w_tally := fn_rule (w := w) (F := E_w_tally) M18 Fu_w_tally S_w_tally T_w_tally rfl rfl (by first | (intro h; exact (by decide +kernel)) | (intro h; cases h)) (.inl ⟨rfl, rfl, rfl⟩)
  have M19 : MF P w K mg base (tabT K tfL) F_19 gkL 60 := M18.push (Nat.le_add_right _ 3) g_w_tally Fu_w_tally.kp b_w_tally rfl G_w_tally
  have G_w_tell := fn_rule (w := w) (F := E_w_tell) M19 Fu_w_tell S_w_tell T_w_tell rfl rfl (by first | (intro h; exact (by decide +kernel)) | (intro h; cases h)) (.inl ⟨rfl, rfl, rfl⟩)
  have M20 : MF P w K mg base (tabT K tfL) F_20 gkL 63 := M19.push (Nat.le_add_right _ 3) g_w_tell Fu_w_tell.kp b_w_tell rfl G_w_tell
  have G_w_draw_pairs := fn_rule (w := w) (F := E_w_draw_pairs) M20 Fu_w_draw_pairs S_w_draw_pairs T_w_draw_pairs rfl rfl (by first | (intro h; exact (by decide +kernel)) | (intro h; cases h)) (.inl ⟨rfl, rfl, rfl⟩)
  have M21 : MF P w K mg base (tabT K tfL) F_21 gkL 66 := M20.push (Nat.le_add_right _ 3) g_w_draw_pairs Fu_w_draw_pairs.kp b_w_draw_pairs rfl G_w_draw_pairs
  have G_w_is_given := fn_rule (w := w) (F := E_w_is_given) M21 Fu_w_is_given S_w_is_given T_w_is_given rfl rfl (by first | (intro h; exact (by decide +kernel)) | (intro h; cases h)) (.inl ⟨rfl, rfl, rfl⟩)
  have M22 : MF P w K mg base (tabT K tfL) F_22 gkL 69 := M21.push (Nat.le_add_right _ 3) g_w_is_given Fu_w_is_given.kp b_w_is_given rfl G_w_is_given
  have G_w_is_due := fn_rule (w := w) (F := E_w_is_due) M22 Fu_w_is_due S_w_is_due T_w_is_due rfl rfl (by first | (intro h; exact (by decide +kernel)) | (intro h; cases h)) (.inl ⟨rfl, rfl, rfl⟩)
  have M23 : MF P w K mg base (tabT K tfL) F_23 gkL 72 := M22.push (Nat.le_add_right _ 3) g_w_is_due Fu_w_is_due.kp b_w_is_due rfl G_w_is_due
  have G_w_near := fn_rule (w := w) (F := E_w_near) M23 Fu_w_near S_w_near T_w_near rfl rfl (by first | (intro h; exact (by decide +kernel)) | (intro h; cases h)) (.inl ⟨rfl, rfl, rfl⟩)
  have M24 : MF P w K mg base (tabT K tfL) F_24 gkL 75 := M23.push (Nat.le_add_right _ 3) g_w_near Fu_w_near.kp b_w_near rfl G_w_near
  have G_w_made_right := fn_rule (w := w) (F := E_w_made_right) M24 Fu_w_made_right S_w_made_right T_w_made_right rfl rfl (by first | (intro h; exact (by decide +kernel)) | (intro h; cases h)) (.inl ⟨rfl, rfl, rfl⟩)
  have M25 : MF P w K mg base (tabT K tfL) F_25 gkL 78 := M24.push (Nat.le_add_right _ 3) g_w_made_right Fu_w_made_right.kp b_w_made_right rfl G_w_made_right
  have Gopen := hand_rule (w := w) (sp := spOpen K) op0 M25 Fu_w_open_cells S_open (fun vs H Q E ⟨l, ns, h, _⟩ => by rw [h]; rfl) (fun X C hN hs => der_open C hN hs) open_enter
  exact ok_law LR (M25.up (Nat.le_add_right _ 2)) Fu_law Gopen g_w_open_cells Fu_w_open_cells.kp b_w_open_cells
end Os
end
section
set_option maxRecDepth 100000
set_option maxHeartbeats 0
open PySem PySem.W PySem.Calls PyProof.Rows
theorem Os.k11_of (LR : Os.LawRuns) : PySem.Challenge.rw_oncestream_k11_tallies.Holds := by
  w_on; o_law
  refine HandSHeadRun.head_any (r := OpenLaw.row PySem.Challenge.rw_oncestream_k11_tallies) (q := view (OpenLaw.row PySem.Challenge.rw_oncestream_k11_tallies).prog [33]) (H := Os.hk) (ob := Os.ob) (M := 2000) (loose := Os.nmL) (d := HandSHeadRun.topDef (OpenLaw.row PySem.Challenge.rw_oncestream_k11_tallies).prog 33) (kwd := []) Os.ob_eq
    (by kernel_rfl) (fun s => by kernel_rfl) Os.head_run (by kernel_rfl) (by kernel_rfl) (by kernel_rfl) (by rfl) (by first | assumption | decide +kernel) (by decide +kernel) ⟨rfl, rfl, rfl, rfl, rfl, by decide +kernel⟩ ?hw ?hc
  case hw => w_witness2
  case hc =>
    refine Os.walkT (l := PySem.Challenge.rw_oncestream_k11_tallies) (n := 63) (k := 82) (x := "_law_script") rfl (by decide) (by kernel_rfl) ⟨⟨rfl, by decide, by decide⟩, rfl⟩ ?F
    intro w mg fa h Y G hmg0
    obtain ⟨K, KX, c⟩ := Y
    have hmg : mg ("law" : PySem.Str) = some (.ref fa) := by
      have e : (HandSHeadRun.topDef (OpenLaw.row PySem.Challenge.rw_oncestream_k11_tallies).prog 33).name = ("law" : PySem.Str) := by kernel_rfl
      rw [← e]
      exact hmg0
    exact ⟨K, KX, Os.facts (by decide) LR KX G hmg c⟩
end
section
set_option linter.all false
set_option maxRecDepth 100000
set_option maxHeartbeats 4000000
/-! N11a: tallies as data: with no program in sight. -/
namespace Os
open PySem PySem.Spec PyProof.Rows L2 PySem.W
/-- a value that is given -/
inductive Gv where
  | i (n : Int)
  | s (x : Str)
  deriving DecidableEq
def Gv.D : Gv → D
  | .i n => .int n
  | .s x => .str x
def oD : Option Gv → D
  | none => .none
  | some g => g.D
/-- the order of given values -/
def gl : Gv → Gv → Bool
  | .i n, .i m => decide (n < m)
  | .i _, .s _ => true
  | .s _, .i _ => false
  | .s x, .s y => decide (x.cps.toList < y.cps.toList)
def rkG : Gv → D
  | .i n => .tuple [.int 1, .int n]
  | .s x => .tuple [.int 2, .str x]
def wrkG : Gv → D
  | .i n => .tuple [.int 1, .int n, .str ""]
  | .s x => .tuple [.int 2, .int 0, .str x]
theorem rk_lt (a b : Gv) : dataLt (rkG a) (rkG b) = gl a b := by
  cases a <;> cases b
  · show dataLt (.tuple [.int 1, .int _]) (.tuple [.int 1, .int _]) = decide _
    rw [t_int, if_pos rfl, t_int, tup_nil]
    rename_i n m
    by_cases h : n = m
    · subst h
      simp
    · rw [if_neg h]
  · show dataLt (.tuple [.int 1, .int _]) (.tuple [.int 2, .str _]) = true
    rw [t_int, if_neg (by decide)]
    decide
  · show dataLt (.tuple [.int 2, .str _]) (.tuple [.int 1, .int _]) = false
    rw [t_int, if_neg (by decide)]
    decide
  · show dataLt (.tuple [.int 2, .str _]) (.tuple [.int 2, .str _]) = decide _
    rw [t_int, if_pos rfl, t_str, tup_nil]
    rename_i x y
    by_cases h : x = y
    · subst h
      rw [if_pos rfl, decide_eq_false (List.lt_irrefl _)]
    · rw [if_neg h]
theorem wrk_lt (a b : Gv) : dataLt (wrkG a) (wrkG b) = gl a b := by
  cases a <;> cases b
  · show dataLt (.tuple [.int 1, .int _, .str ""]) (.tuple [.int 1, .int _, .str ""]) = decide _
    rw [t_int, if_pos rfl, t_int, t_str, if_pos rfl, tup_nil]
    rename_i n m
    by_cases h : n = m
    · subst h
      simp
    · rw [if_neg h]
  · show dataLt (.tuple [.int 1, .int _, .str ""]) (.tuple [.int 2, .int 0, .str _]) = true
    rw [t_int, if_neg (by decide)]
    decide
  · show dataLt (.tuple [.int 2, .int 0, .str _]) (.tuple [.int 1, .int _, .str ""]) = false
    rw [t_int, if_neg (by decide)]
    decide
  · show dataLt (.tuple [.int 2, .int 0, .str _]) (.tuple [.int 2, .int 0, .str _]) = decide _
    rw [t_int, if_pos rfl, t_int, if_pos rfl, t_str, tup_nil]
    rename_i x y
    by_cases h : x = y
    · subst h
      rw [if_pos rfl, decide_eq_false (List.lt_irrefl _)]
    · rw [if_neg h]
def leG (a b : Gv) : Bool := !gl b a
theorem le_rk : leD rkG = leG := by
  funext a b
  unfold leD leG
  rw [rk_lt]
theorem le_wrk : leD wrkG = leG := by
  funext a b
  unfold leD leG
  rw [wrk_lt]
theorem leG_trans (a b c : Gv) (h : leG a b = true) (h2 : leG b c = true) : leG a c = true := by
  rw [← le_rk] at *
  exact leD_trans rkG a b c h h2
theorem leG_total (a b : Gv) : (leG a b || leG b a) = true := by
  rw [← le_rk]
  exact leD_total rkG a b
theorem gl_tri {a b : Gv} (h : gl a b = false) (h2 : gl b a = false) : a = b := by
  cases a <;> cases b
  · simp only [gl, decide_eq_false_iff_not] at h h2
    congr 1
    omega
  · cases h
  · cases h2
  · simp only [gl, decide_eq_false_iff_not] at h h2
    rename_i x y
    have e : x.cps.toList = y.cps.toList := List.le_antisymm (List.not_lt.mp h2) (List.not_lt.mp h)
    congr 1
    obtain ⟨⟨a⟩⟩ := x
    obtain ⟨⟨b⟩⟩ := y
    simp only at e
    rw [e]
theorem leG_anti {a b : Gv} (h : leG a b = true) (h2 : leG b a = true) : a = b := by
  unfold leG at h h2
  exact gl_tri (by simpa using h2) (by simpa using h)
/-- sorted lists with the same members, each once, are one -/
theorem sorted_same {l m : List Gv} (hl : l.Nodup) (hm : m.Nodup) (h : ∀ g, g ∈ l ↔ g ∈ m) (sl : l.Pairwise fun a b => leG a b = true) (sm : m.Pairwise fun a b => leG a b = true) : l = m := by
  have p : l.Perm m := (List.perm_ext_iff_of_nodup hl hm).mpr h
  exact List.Perm.eq_of_pairwise (fun a b _ _ h1 h2 => leG_anti h1 h2) sl sm p
/-! ### tallies -/
abbrev Cn := List (Gv × Int)
/-- the values that tell, in order -/
def keysOfF (f : Gv → Int) (ks : List Gv) : List Gv := (ks.mergeSort leG).filter fun g => decide (f g ≠ 0)
def canK (f : Gv → Int) (ks : List Gv) : Cn := (keysOfF f ks).map fun g => (g, f g)
structure Sup (f : Gv → Int) (ks : List Gv) : Prop where
  nd : ks.Nodup
  sup : ∀ g, f g ≠ 0 → g ∈ ks
theorem keys_same {f : Gv → Int} {ks ks' : List Gv} (h : Sup f ks) (h' : Sup f ks') : keysOfF f ks = keysOfF f ks' := by
  unfold keysOfF
  refine sorted_same ?_ ?_ (fun g => ?_) ?_ ?_
  · exact (((List.mergeSort_perm _ _).nodup_iff).mpr h.nd).filter _
  · exact (((List.mergeSort_perm _ _).nodup_iff).mpr h'.nd).filter _
  · rw [List.mem_filter, List.mem_filter, (List.mergeSort_perm _ _).mem_iff, (List.mergeSort_perm _ _).mem_iff]
    constructor
    · rintro ⟨_, hf⟩
      exact ⟨h'.sup g (of_decide_eq_true hf), hf⟩
    · rintro ⟨_, hf⟩
      exact ⟨h.sup g (of_decide_eq_true hf), hf⟩
  · exact (List.pairwise_mergeSort leG_trans leG_total _).filter _
  · exact (List.pairwise_mergeSort leG_trans leG_total _).filter _
theorem can_same {f : Gv → Int} {ks ks' : List Gv} (h : Sup f ks) (h' : Sup f ks') : canK f ks = canK f ks' := by
  unfold canK
  rw [keys_same h h']
/-- a tally of f -/
def Ty (f : Gv → Int) (t : Cn) : Prop := ∃ ks, Sup f ks ∧ t = canK f ks
theorem Ty.uniq {f : Gv → Int} {t t' : Cn} (h : Ty f t) (h' : Ty f t') : t = t' := by
  obtain ⟨ks, h1, rfl⟩ := h
  obtain ⟨ks', h2, rfl⟩ := h'
  exact can_same h1 h2
theorem Ty.congr {f f' : Gv → Int} {t : Cn} (h : Ty f t) (e : ∀ g, f g = f' g) : Ty f' t := by
  rw [← funext e]
  exact h
/-! ### lists of values with numbers -/
def lookI : Cn → Gv → Int
  | [], _ => 0
  | p :: L, g => if p.1 = g then p.2 else lookI L g
def hasI (L : Cn) (g : Gv) : Bool := decide (g ∈ L.map (·.1))
def putI : Cn → Gv → Int → Cn
  | [], g, n => [(g, n)]
  | p :: L, g, n => if p.1 = g then (p.1, n) :: L else p :: putI L g n
theorem look_put : ∀ (L : Cn) (g : Gv) (n : Int) (x : Gv), lookI (putI L g n) x = if g = x then n else lookI L x
  | [], g, n, x => rfl
  | p :: L, g, n, x => by
    rw [putI]
    by_cases h : p.1 = g
    · rw [if_pos h, lookI, lookI, h]
      by_cases h2 : g = x
      · rw [if_pos h2, if_pos h2]
      · rw [if_neg h2, if_neg h2, if_neg h2]
    · rw [if_neg h, lookI, lookI, look_put L g n x]
      by_cases h2 : p.1 = x
      · rw [if_pos h2, if_pos h2, if_neg (fun e => h (h2.trans e.symm))]
      · rw [if_neg h2, if_neg h2]
theorem put_keys : ∀ (L : Cn) (g : Gv) (n : Int), (putI L g n).map (·.1) = if g ∈ L.map (·.1) then L.map (·.1) else L.map (·.1) ++ [g]
  | [], g, n => by simp [putI]
  | p :: L, g, n => by
    rw [putI]
    by_cases h : p.1 = g
    · rw [if_pos h, if_pos (by rw [List.map_cons, h]; exact List.mem_cons_self)]
      rfl
    · rw [if_neg h, List.map_cons, put_keys L g n, List.map_cons]
      by_cases h2 : g ∈ L.map (·.1)
      · rw [if_pos h2, if_pos (List.mem_cons_of_mem _ h2)]
      · rw [if_neg h2, if_neg (by
          rw [List.mem_cons, not_or]
          exact ⟨fun e => h e.symm, h2⟩)]
        rfl
theorem put_nodup {L : Cn} {g : Gv} {n : Int} (h : (L.map (·.1)).Nodup) : ((putI L g n).map (·.1)).Nodup := by
  rw [put_keys]
  split
  · exact h
  · rename_i hx
    rw [List.nodup_append]
    exact ⟨h, by simp, fun a ha b hb e => by
      rw [List.mem_singleton] at hb
      subst hb
      subst e
      exact hx ha⟩
theorem put_len (L : Cn) (g : Gv) (n : Int) : (putI L g n).length ≤ L.length + 1 := by
  have := congrArg List.length (put_keys L g n)
  rw [List.length_map] at this
  rw [this]
  split <;> simp
theorem look_sup : ∀ (L : Cn) (g : Gv), lookI L g ≠ 0 → g ∈ L.map (·.1)
  | [], g, h => absurd rfl h
  | p :: L, g, h => by
    rw [lookI] at h
    by_cases e : p.1 = g
    · rw [List.map_cons, e]
      exact List.mem_cons_self
    · rw [if_neg e] at h
      exact List.mem_cons_of_mem _ (look_sup L g h)
theorem ty_of {L : Cn} (h : (L.map (·.1)).Nodup) : Ty (lookI L) (canK (lookI L) (L.map (·.1))) := ⟨_, ⟨h, look_sup L⟩, rfl⟩
theorem look_map (f : Gv → Int) : ∀ (ks : List Gv) (g : Gv), lookI (ks.map fun k => (k, f k)) g = if g ∈ ks then f g else 0
  | [], g => by simp [lookI]
  | k :: ks, g => by
    rw [List.map_cons, lookI, look_map f ks g]
    by_cases h : k = g
    · subst h
      simp
    · rw [if_neg h]
      by_cases h2 : g ∈ ks
      · rw [if_pos h2, if_pos (List.mem_cons_of_mem _ h2)]
      · rw [if_neg h2, if_neg (by
          rw [List.mem_cons, not_or]
          exact ⟨fun e => h e.symm, h2⟩)]
theorem Ty.look {f : Gv → Int} {t : Cn} (h : Ty f t) (g : Gv) : lookI t g = f g := by
  obtain ⟨ks, hs, rfl⟩ := h
  unfold canK
  rw [look_map]
  by_cases hf : f g = 0
  · rw [if_neg (fun z => by
      unfold keysOfF at z
      rw [List.mem_filter] at z
      exact absurd hf (of_decide_eq_true z.2)), hf]
  · rw [if_pos]
    unfold keysOfF
    rw [List.mem_filter, (List.mergeSort_perm _ _).mem_iff]
    exact ⟨hs.sup g hf, decide_eq_true hf⟩
theorem Ty.keys {f : Gv → Int} {t : Cn} (h : Ty f t) : (t.map (·.1)).Nodup := by
  obtain ⟨ks, hs, rfl⟩ := h
  unfold canK
  rw [List.map_map]
  have e : (fun p : Gv × Int => p.1) ∘ (fun g => (g, f g)) = fun g => g := rfl
  show ((keysOfF f ks).map ((fun p : Gv × Int => p.1) ∘ (fun g => (g, f g)))).Nodup
  rw [e, List.map_id']
  unfold keysOfF
  exact (((List.mergeSort_perm _ _).nodup_iff).mpr hs.nd).filter _
/-- adding up -/
def addUp (k : Int) : Cn → Cn → Cn
  | L, [] => L
  | L, p :: u => addUp k (putI L p.1 (lookI L p.1 + k * p.2)) u
def net : Cn → Gv → Int
  | [], _ => 0
  | p :: u, g => (if p.1 = g then p.2 else 0) + net u g
theorem addUp_look (k : Int) : ∀ (u L : Cn) (g : Gv), lookI (addUp k L u) g = lookI L g + k * net u g
  | [], L, g => by simp [addUp, net]
  | p :: u, L, g => by
    rw [addUp, addUp_look k u, look_put, net]
    by_cases h : p.1 = g
    · rw [if_pos h, if_pos h, h, Int.mul_add]
      omega
    · rw [if_neg h, if_neg h]
      simp
theorem addUp_nodup (k : Int) : ∀ (u L : Cn), (L.map (·.1)).Nodup → ((addUp k L u).map (·.1)).Nodup
  | [], L, h => h
  | p :: u, L, h => addUp_nodup k u _ (put_nodup h)
theorem addUp_len (k : Int) : ∀ (u L : Cn), (addUp k L u).length ≤ L.length + u.length
  | [], L => Nat.le_refl _
  | p :: u, L => by
    have := addUp_len k u (putI L p.1 (lookI L p.1 + k * p.2))
    have := put_len L p.1 (lookI L p.1 + k * p.2)
    rw [addUp]
    simp only [List.length_cons]
    omega
theorem net_nodup : ∀ (u : Cn) (g : Gv), (u.map (·.1)).Nodup → net u g = lookI u g
  | [], g, _ => rfl
  | p :: u, g, h => by
    rw [List.map_cons, List.nodup_cons] at h
    rw [net, lookI, net_nodup u g h.2]
    by_cases e : p.1 = g
    · rw [if_pos e, if_pos e]
      have : lookI u g = 0 := Classical.byContradiction fun z => h.1 (e ▸ look_sup u g z)
      omega
    · rw [if_neg e, if_neg e]
      omega
theorem net_app : ∀ (u v : Cn) (g : Gv), net (u ++ v) g = net u g + net v g
  | [], v, g => by simp [net]
  | p :: u, v, g => by
    rw [List.cons_append, net, net, net_app u v g]
    omega
theorem net_perm {u v : Cn} (h : u.Perm v) (g : Gv) : net u g = net v g := by
  induction h with
  | nil => rfl
  | cons x _ ih => rw [net, net, ih]
  | swap x y l =>
    simp only [net]
    omega
  | trans _ _ h1 h2 => rw [h1, h2]
end Os
end
section
set_option linter.all false
set_option maxRecDepth 100000
set_option maxHeartbeats 4000000
/-! N11b: dicts of numbers; listed, add, joined. -/
namespace Os
open PySem PySem.Spec PyProof.Rows L2 PySem.W
/-! ### dicts -/
def gK : Gv → NestedKey
  | .i n => .num n
  | .s x => .text x
theorem gK_dec (a b : Gv) : decide (gK a = gK b) = decide (a = b) := by
  cases a <;> cases b <;> simp [gK]
theorem g_keyD (g : Gv) : keyD g.D = some (gK g) := by
  cases g <;> simp [keyD, Gv.D, keyOf, gK, NestedKey.depth]
def kvI (L : Cn) : List (D × D) := L.map fun p => (p.1.D, .int p.2)
def prI (p : Gv × Int) : D := .tuple [p.1.D, .int p.2]
theorem kvI_keys : ∀ L : Cn, keysOf ((kvI L).map (·.1)) = some (L.map fun p => gK p.1)
  | [] => by simp [kvI, keysOf]
  | p :: L => by
    have := kvI_keys L
    simp only [kvI, List.map_cons] at this ⊢
    have e : keyOf p.1.D = some (gK p.1) := by cases p.1 <;> simp [Gv.D, keyOf, gK]
    rw [keysOf, e, Option.bind_some, this]
    rfl
theorem kvI_ix (L : Cn) (r : Gv) : kvIx (kvI L) (gK r) = L.findIdx? fun p => decide (p.1 = r) := by
  unfold kvIx
  rw [kvI_keys, Option.bind_some]
  unfold kIx
  rw [List.findIdx?_map]
  congr 1
  funext p
  exact gK_dec p.1 r
theorem kvI_at : ∀ (L : Cn) (r : Gv), kvAt (kvI L) (gK r) = if r ∈ L.map (·.1) then some (.int (lookI L r)) else none
  | [], r => rfl
  | p :: L, r => by
    have ih := kvI_at L r
    unfold kvAt at ih ⊢
    rw [kvI_ix] at ih ⊢
    rw [List.findIdx?_cons, lookI]
    by_cases h : p.1 = r
    · simp [h, kvI]
    · rw [decide_eq_false h, if_neg h]
      simp only [Bool.false_eq_true, if_false]
      have e : (r ∈ (p :: L).map (·.1)) = (r ∈ L.map (·.1)) := by
        rw [List.map_cons, List.mem_cons, eq_iff_iff]
        exact ⟨fun z => z.elim (fun z => absurd z.symm h) id, .inr⟩
      simp only [e]
      rw [← ih]
      cases List.findIdx? (fun p : Gv × Int => decide (p.1 = r)) L <;> rfl
theorem kvI_put : ∀ (L : Cn) (r : Gv) (n : Int), kvPut (kvI L) (gK r) r.D (.int n) = kvI (putI L r n)
  | [], r, n => rfl
  | p :: L, r, n => by
    have ih := kvI_put L r n
    unfold kvPut at ih ⊢
    rw [kvI_ix] at ih ⊢
    rw [List.findIdx?_cons, putI]
    by_cases h : p.1 = r
    · simp [h, kvI]
    · rw [decide_eq_false h, if_neg h]
      simp only [Bool.false_eq_true, if_false]
      show _ = (p.1.D, PyData.int p.2) :: kvI (putI L r n)
      rw [← ih]
      cases List.findIdx? (fun p : Gv × Int => decide (p.1 = r)) L <;> rfl
theorem look_not : ∀ {L : Cn} {g : Gv}, g ∉ L.map (·.1) → lookI L g = 0 := fun {L g} h => Classical.byContradiction fun z => h (look_sup L g z)
theorem get_I (L : Cn) (g : Gv) : dM2 .get (.dict (kvI L)) g.D (.int 0) = some (.int (lookI L g)) := by
  show (keyD g.D).map (fun kk => (kvAt (kvI L) kk).getD (.int 0)) = _
  rw [g_keyD, Option.map_some, kvI_at]
  by_cases h : g ∈ L.map (·.1)
  · rw [if_pos h]
    rfl
  · rw [if_neg h, look_not h]
    rfl
theorem idx_I {L : Cn} {g : Gv} (h : g ∈ L.map (·.1)) : dIdx (.dict (kvI L)) g.D = some (.int (lookI L g)) := by
  show (keyD g.D).bind (fun kk => kvAt (kvI L) kk) = _
  rw [g_keyD, Option.bind_some, kvI_at, if_pos h]
theorem put_new : ∀ {L : Cn} {g : Gv} {n : Int}, g ∉ L.map (·.1) → putI L g n = L ++ [(g, n)]
  | [], _, _, _ => rfl
  | p :: L, g, n, h => by
    rw [List.map_cons, List.mem_cons, not_or] at h
    rw [putI, if_neg (Ne.symm h.1), put_new h.2]
    rfl
theorem dict_I : ∀ (u L : Cn), ((L ++ u).map (·.1)).Nodup → dictOf (kvI L) (kvI u) = some (kvI (L ++ u))
  | [], L, _ => by
    rw [List.append_nil]
    rfl
  | p :: u, L, h => by
    show (keyD p.1.D).bind (fun kk => dictOf (kvPut (kvI L) kk p.1.D (.int p.2)) (kvI u)) = _
    rw [g_keyD, Option.bind_some, kvI_put, put_new (fun z => by
      rw [List.map_append, List.nodup_append] at h
      exact h.2.2 p.1 z p.1 List.mem_cons_self rfl), dict_I u (L ++ [p]) (by simpa using h)]
    simp
theorem pairs_I : ∀ u : Cn, pairsOf (u.map prI) = some (kvI u)
  | [] => rfl
  | p :: u => by
    rw [List.map_cons]
    show (pairsOf (u.map prI)).map _ = _
    rw [pairs_I u]
    rfl
theorem dict_tally {u : Cn} (h : (u.map (·.1)).Nodup) (hl : u.length ≤ 1000) : dB1 .dict (.tuple (u.map prI)) = some (.dict (kvI u)) := by
  show (if (u.map prI).length ≤ sizeLine then ((pairsOf (u.map prI)).bind (dictOf [])).map PyData.dict else none) = _
  rw [if_pos (by rw [List.length_map]; exact Nat.le_trans hl (by decide)), pairs_I, Option.bind_some]
  have := dict_I u [] (by simpa using h)
  rw [show kvI [] = [] from rfl, List.nil_append] at this
  rw [this]
  rfl
theorem g_imm (g : Gv) : imm g.D = true := by cases g <;> rfl
/-- d[g] = d.get(g, 0) + e -/
theorem run_put {Φ : List FE} {i j : Nat} {e : ME} {ρ : LSS} {s : S1} {L : Cn} {g : Gv} {m : Int} (hi : ρ[i]? = some (.own (.dict (kvI L)))) (hj : ρ[j]? = some (.frz g.D)) (he : ev Φ e (vw .i ρ) s = some (.int m, s)) (hl : L.length ≤ 1000) :
    run Φ (.dput i .i (.nm j) (.op .add (.m2 .get (.nm i) (.nm j) (.k (.int 0))) e)) ρ s = some (.nx (ρ.set i (.own (.dict (kvI (putI L g (lookI L g + m)))))) s) := by
  have hgi : (vw .i ρ)[i]? = some (.d (.dict (kvI L))) := look_rs hi
  have hgj : (vw .i ρ)[j]? = some (.d g.D) := look_r hj
  have hv : evM Φ .i (.op .add (.m2 .get (.nm i) (.nm j) (.k (.int 0))) e) ρ s = some (.frz (.int (lookI L g + m)), s) :=
    evM_of (ev_op (x := .int (lookI L g)) (y := .int m) (s1 := s) (ev_m2 (x := .dict (kvI L)) (y := g.D) (w := .int 0) (s1 := s) (s2 := s) (ev_nm hgi) (ev_nm hgj) ev_k (get_I L g)) he rfl) rfl
  have hk : evM Φ .i (.nm j) ρ s = some (.frz g.D, s) := evM_of (ev_nm hgj) (by
    show (if imm g.D = true then some (SS.frz g.D) else none) = _
    rw [if_pos (g_imm g)])
  rw [run, hv, Option.bind_some]
  dsimp only
  rw [hk, Option.bind_some]
  dsimp only
  rw [hi]
  dsimp only
  show ((keyD g.D).bind _) = _
  rw [g_keyD, Option.bind_some]
  rw [if_pos (show (kvI L).length < sizeLine by
    unfold kvI
    rw [List.length_map]
    exact Nat.lt_of_le_of_lt hl (by decide)), kvI_put]
/-! ### sorts -/
theorem rk_tup (g : Gv) : ∃ x xs, rkG g = .tuple (x :: xs) := by cases g <;> exact ⟨_, _, rfl⟩
theorem wrk_tup (g : Gv) : ∃ x xs, wrkG g = .tuple (x :: xs) := by cases g <;> exact ⟨_, _, rfl⟩
theorem rk_dep (g : Gv) : (rkG g).depth ≤ 60 := by cases g <;> simp [rkG, PyData.depth, PyData.depthAll]
theorem wrk_dep (g : Gv) : (wrkG g).depth ≤ 60 := by cases g <;> simp [wrkG, PyData.depth, PyData.depthAll]
theorem wrk_alike (a b : Gv) : alike (wrkG a) (wrkG b) = true := by cases a <;> cases b <;> simp [wrkG, alike, alikeAll]
theorem rk_mix (a b : Gv) : mix (rkG a) (rkG b) = true := by
  cases a <;> cases b <;> simp [rkG, mix, mixAll, alike, PyData.eqv]
/-- sorted by mixed keys -/
theorem sortBy_mix {α : Type} {f g : α → D} {l : List α} (hal : ∀ a ∈ l, ∀ b ∈ l, mix (f a) (f b) = true) (ht : ∀ a, ∃ x xs, f a = .tuple (x :: xs)) (hd : ∀ a, (f a).depth ≤ 60) (hl : l.length ≤ sizeLine) : dSortBy (l.map g) (l.map f) = some ((l.mergeSort (leD f)).map g) := by
  unfold dSortBy
  rw [if_pos]
  · congr 1
    rw [zip_maps]
    have e : (l.map fun r => (g r, f r)).mergeSort (dataLe false Prod.snd) = (l.mergeSort (leD f)).map fun r => (g r, f r) := (List.map_mergeSort (f := fun r => (g r, f r)) (r := leD f) (s := dataLe false Prod.snd) (l := l) fun a _ b _ => rfl).symm
    rw [e, List.map_map]
    rfl
  · refine ⟨.inr ?_, by rw [List.length_map]; exact hl, by rw [List.length_map, List.length_map]⟩
    unfold mixL
    rw [Bool.and_eq_true, Bool.and_eq_true]
    refine ⟨⟨?_, ?_⟩, ?_⟩
    · rw [List.all_eq_true]
      intro x hx
      rw [List.all_eq_true]
      intro y hy
      obtain ⟨a, ha, rfl⟩ := List.mem_map.mp hx
      obtain ⟨b, hb, rfl⟩ := List.mem_map.mp hy
      exact hal a ha b hb
    · rw [List.all_eq_true]
      intro x hx
      obtain ⟨a, _, rfl⟩ := List.mem_map.mp hx
      obtain ⟨y, ys, e⟩ := ht a
      rw [e]
    · rw [List.all_eq_true]
      intro x hx
      obtain ⟨a, _, rfl⟩ := List.mem_map.mp hx
      exact decide_eq_true (hd a)
theorem sem_rank (g : Gv) (s : S1) : E_rank.sem [.d g.D] s = some (rkG g, s) := by cases g <;> rfl
theorem sem_w_rank (g : Gv) (s : S1) : E_w_rank.sem [.d g.D] s = some (wrkG g, s) := by cases g <;> rfl
/-- what is told of a dict: by whatever sort -/
theorem ev_told {Φ : List FE} {ρ : LS} {s : S1} {i v : Nat} {it : ME} {L : Cn} (hi : (wipeS ρ [v])[i]? = some (.d (.dict (kvI L)))) (hiv : v ≠ i) (hv : v < ρ.length) (hit : ev Φ it ρ s = some (.list (((L.map (·.1)).mergeSort leG).map Gv.D), s)) (hl : L.length ≤ 1000) :
    ev Φ (.b1 .tuple (.comp (.tup (.cons (.nm v) (.cons (.idx (.nm i) (.nm v)) .nil))) (.nm v) (.seq it) (.cons (.cmp .ne (.idx (.nm i) (.nm v)) (.k (.int 0))) .nil) [v])) ρ s = some (.tuple ((canK (lookI L) (L.map (·.1))).map prI), s) := by
  have hvl : v < (wipeS ρ [v]).length := by
    show v < (ρ.set v .un).length
    rw [List.length_set]
    exact hv
  have mem : ∀ g ∈ (L.map (·.1)).mergeSort leG, g ∈ L.map (·.1) := fun g hg => (List.mergeSort_perm _ _).mem_iff.mp hg
  have cm := compRun_fil (ft := evt Φ (.cons (.cmp .ne (.idx (.nm i) (.nm v)) (.k (.int 0))) .nil)) (fe := ev Φ (.tup (.cons (.nm v) (.cons (.idx (.nm i) (.nm v)) .nil)))) (t := .nm v) (ρ := wipeS ρ [v]) (s := s) Gv.D (fun g => decide (lookI L g ≠ 0)) (fun g => PyData.tuple [g.D, .int (lookI L g)]) (xs := (L.map (·.1)).mergeSort leG) (fun g hg => by
    have h1 : ((wipeS ρ [v]).set v (.d g.D))[i]? = some (.d (.dict (kvI L))) := by
      rw [List.getElem?_set_ne hiv]
      exact hi
    have h2 : ((wipeS ρ [v]).set v (.d g.D))[v]? = some (.d g.D) := List.getElem?_set_self hvl
    have ei : ev Φ (.idx (.nm i) (.nm v)) ((wipeS ρ [v]).set v (.d g.D)) s = some (.int (lookI L g), s) := ev_idx (x := .dict (kvI L)) (y := g.D) (s1 := s) (ev_nm h1) (ev_nm h2) (idx_I (mem g hg))
    refine ⟨_, by
      show (if v < (wipeS ρ [v]).length then some ((wipeS ρ [v]).set v (.d g.D)) else none) = _
      rw [if_pos hvl], ?_, fun _ => ev_tup (xs := [g.D, .int (lookI L g)]) (evs_cons (s1 := s) (ev_nm h2) (evs_cons (s1 := s) ei evs_nil)) (by show 2 ≤ sizeLine; decide)⟩
    have ec : ev Φ (.cmp .ne (.idx (.nm i) (.nm v)) (.k (.int 0))) ((wipeS ρ [v]).set v (.d g.D)) s = some (.bool (decide (lookI L g ≠ 0)), s) := ev_cmp (x := .int (lookI L g)) (y := .int 0) (s1 := s) ei ev_k (by
      show some (!decide (lookI L g = 0)) = _
      simp)
    rw [evt, ec, Option.bind_some]
    show (Option.bind (some (decide (lookI L g ≠ 0))) _) = _
    rw [Option.bind_some]
    cases decide (lookI L g ≠ 0) <;> rfl)
  refine ev_b1 (x := .list ((canK (lookI L) (L.map (·.1))).map prI)) (ev_comp (xs := ((L.map (·.1)).mergeSort leG).map Gv.D) (s1 := s) ?_ ?_ ?_) rfl
  · rw [evi, hit]
    rfl
  · unfold canK keysOfF
    rw [List.map_map]
    exact cm
  · unfold canK keysOfF
    rw [List.length_map, List.length_map]
    have := List.length_filter_le (fun g => decide (lookI L g ≠ 0)) ((L.map (·.1)).mergeSort leG)
    rw [List.length_mergeSort, List.length_map] at this
    exact Nat.le_trans (Nat.le_trans this hl) (by decide)
theorem walk_I (L : Cn) : walkOf (.dict (kvI L)) = some ((L.map (·.1)).map Gv.D) := by
  show some ((kvI L).map (·.1)) = _
  unfold kvI
  rw [List.map_map, List.map_map]
  rfl
theorem sem_listed {L : Cn} (hl : L.length ≤ 1000) (s : S1) : E_listed.sem [.d (.dict (kvI L))] s = some (.tuple ((canK (lookI L) (L.map (·.1))).map prI), s) := by
  rw [show E_listed.sem = semOf (pureL F_07) false 2 M_listed from rfl]
  refine sem_rt [.frz (.dict (kvI L)), .un] rfl (runs_rt (run_ret (ev_told rfl (by decide) (by show 1 < 2; decide) ?_ hl)))
  refine ev_sortK (x := .dict (kvI L)) (xs := (L.map (·.1)).map Gv.D) (ks := (L.map (·.1)).map rkG) (s1 := s) rfl (walk_I L) rfl rfl (keysRun_map (s := none) fun g _ => sem_rank g none) ?_
  rw [← le_rk]
  exact sortBy_mix (fun a _ b _ => rk_mix a b) rk_tup rk_dep (by rw [List.length_map]; exact Nat.le_trans hl (by decide))
end Os
end
section
set_option linter.all false
set_option maxRecDepth 100000
set_option maxHeartbeats 4000000
/-! N11c: add, add_all, joined, both, less, the law's tally. -/
namespace Os
open PySem PySem.Spec PyProof.Rows L2 PySem.W
abbrev Pp := List (Option Gv × Int)
def pD (p : Option Gv × Int) : D := .tuple [oD p.1, .int p.2]
def gvI : Option Gv → Int
  | some (.i n) => n
  | _ => 0
def sumS : Pp → Int
  | [] => 0
  | p :: P => p.2 + sumS P
def sumV : Pp → Int
  | [] => 0
  | p :: P => p.2 * gvI p.1 + sumV P
def someP : Pp → Cn
  | [] => []
  | (some g, n) :: P => (g, n) :: someP P
  | (none, _) :: P => someP P
def sc (k : Int) (P : Pp) : Pp := P.map fun p => (p.1, k * p.2)
theorem sumS_app : ∀ P Q : Pp, sumS (P ++ Q) = sumS P + sumS Q
  | [], Q => by simp [sumS]
  | p :: P, Q => by
    rw [List.cons_append, sumS, sumS, sumS_app P Q]
    omega
theorem sumV_app : ∀ P Q : Pp, sumV (P ++ Q) = sumV P + sumV Q
  | [], Q => by simp [sumV]
  | p :: P, Q => by
    rw [List.cons_append, sumV, sumV, sumV_app P Q]
    omega
theorem someP_app : ∀ P Q : Pp, someP (P ++ Q) = someP P ++ someP Q
  | [], Q => rfl
  | (some g, n) :: P, Q => by rw [List.cons_append, someP, someP, someP_app P Q]; rfl
  | (none, n) :: P, Q => by rw [List.cons_append, someP, someP, someP_app P Q]
theorem sumS_sc (k : Int) : ∀ P : Pp, sumS (sc k P) = k * sumS P
  | [] => by simp [sumS, sc]
  | p :: P => by
    have := sumS_sc k P
    show k * p.2 + sumS (sc k P) = _
    rw [this, sumS, Int.mul_add]
theorem sumV_sc (k : Int) : ∀ P : Pp, sumV (sc k P) = k * sumV P
  | [] => by simp [sumV, sc]
  | p :: P => by
    have := sumV_sc k P
    show k * p.2 * gvI p.1 + sumV (sc k P) = _
    rw [this, sumV, Int.mul_add, Int.mul_assoc]
theorem net_sc (k : Int) : ∀ (P : Pp) (g : Gv), net (someP (sc k P)) g = k * net (someP P) g
  | [], g => by simp [someP, sc, net]
  | (some x, n) :: P, g => by
    have := net_sc k P g
    show (if x = g then k * n else 0) + net (someP (sc k P)) g = _
    rw [this, someP, net, Int.mul_add]
    by_cases h : x = g
    · rw [if_pos h, if_pos h]
    · rw [if_neg h, if_neg h]
      simp
  | (none, n) :: P, g => net_sc k P g
theorem someP_len : ∀ P : Pp, (someP P).length ≤ P.length
  | [] => Nat.le_refl _
  | (some g, n) :: P => by
    have := someP_len P
    show (someP P).length + 1 ≤ _
    simp only [List.length_cons]
    omega
  | (none, n) :: P => by
    have := someP_len P
    show (someP P).length ≤ _
    simp only [List.length_cons]
    omega
theorem someP_perm {P Q : Pp} (h : P.Perm Q) : (someP P).Perm (someP Q) := by
  induction h with
  | nil => exact .nil
  | cons x _ ih =>
    obtain ⟨o, n⟩ := x
    cases o with
    | none => exact ih
    | some g => exact .cons _ ih
  | swap x y l =>
    obtain ⟨o, n⟩ := x
    obtain ⟨o', n'⟩ := y
    cases o <;> cases o' <;> first | exact .refl _ | exact .swap _ _ _
  | trans _ _ h1 h2 => exact h1.trans h2
theorem sumS_perm {P Q : Pp} (h : P.Perm Q) : sumS P = sumS Q := by
  induction h with
  | nil => rfl
  | cons x _ ih => rw [sumS, sumS, ih]
  | swap x y l =>
    simp only [sumS]
    omega
  | trans _ _ h1 h2 => rw [h1, h2]
theorem sumV_perm {P Q : Pp} (h : P.Perm Q) : sumV P = sumV Q := by
  induction h with
  | nil => rfl
  | cons x _ ih => rw [sumV, sumV, ih]
  | swap x y l =>
    simp only [sumV]
    omega
  | trans _ _ h1 h2 => rw [h1, h2]
/-- told alike -/
structure Same (P Q : Pp) : Prop where
  s : sumS P = sumS Q
  v : sumV P = sumV Q
  n : ∀ g, net (someP P) g = net (someP Q) g
theorem Same.perm {P Q : Pp} (h : P.Perm Q) : Same P Q := ⟨sumS_perm h, sumV_perm h, fun g => net_perm (someP_perm h) g⟩
inductive How : Str → Prop
  | count : How "count"
  | sum : How "sum"
  | least : How "least"
  | greatest : How "greatest"
/-- d is the tally of P -/
def TyD (h : Str) (P : Pp) (d : D) : Prop := if h = "count" then d = .int (sumS P) else if h = "sum" then d = .int (sumV P) else ∃ t, d = .tuple (t.map prI) ∧ Ty (net (someP P)) t
theorem TyD.uniq {h : Str} {P Q : Pp} {d e : D} (a : TyD h P d) (b : TyD h Q e) (s : Same P Q) : d = e := by
  unfold TyD at a b
  split at a
  · rw [if_pos (by assumption)] at b
    rw [a, b, s.s]
  · rename_i h1
    rw [if_neg h1] at b
    split at a
    · rw [if_pos (by assumption)] at b
      rw [a, b, s.v]
    · rename_i h2
      rw [if_neg h2] at b
      obtain ⟨t, rfl, ht⟩ := a
      obtain ⟨u, rfl, hu⟩ := b
      rw [(ht.congr s.n).uniq hu]
theorem ne1 : ("sum" : Str) ≠ "count" := by decide +kernel
theorem ne2 : ("least" : Str) ≠ "count" := by decide +kernel
theorem ne3 : ("greatest" : Str) ≠ "count" := by decide +kernel
theorem ne4 : ("least" : Str) ≠ "sum" := by decide +kernel
theorem ne5 : ("greatest" : Str) ≠ "sum" := by decide +kernel
theorem tyd_count {P : Pp} {d : D} : TyD "count" P d ↔ d = .int (sumS P) := by
  unfold TyD
  rw [if_pos rfl]
theorem tyd_sum {P : Pp} {d : D} : TyD "sum" P d ↔ d = .int (sumV P) := by
  unfold TyD
  rw [if_neg ne1, if_pos rfl]
theorem tyd_else {h : Str} (h1 : h ≠ "count") (h2 : h ≠ "sum") {P : Pp} {d : D} : TyD h P d ↔ ∃ t, d = .tuple (t.map prI) ∧ Ty (net (someP P)) t := by
  unfold TyD
  rw [if_neg h1, if_neg h2]
theorem sub_len : ∀ {l m : List Gv}, l.Nodup → (∀ x ∈ l, x ∈ m) → l.length ≤ m.length
  | [], m, _, _ => Nat.zero_le _
  | x :: l, m, hn, hs => by
    rw [List.nodup_cons] at hn
    have := sub_len (l := l) (m := m.erase x) hn.2 fun y hy => (List.mem_erase_of_ne (fun e => hn.1 (by rw [← e]; exact hy))).mpr (hs y (List.mem_cons_of_mem _ hy))
    rw [List.length_erase_of_mem (hs x List.mem_cons_self)] at this
    have h0 : 0 < m.length := List.length_pos_of_mem (hs x List.mem_cons_self)
    simp only [List.length_cons]
    omega
theorem net_sup : ∀ (u : Cn) (g : Gv), net u g ≠ 0 → g ∈ u.map (·.1)
  | [], g, h => absurd rfl h
  | p :: u, g, h => by
    by_cases e : p.1 = g
    · rw [List.map_cons, e]
      exact List.mem_cons_self
    · rw [net, if_neg e] at h
      exact List.mem_cons_of_mem _ (net_sup u g (by simpa using h))
theorem ty_len {P : Pp} {t : Cn} (h : Ty (net (someP P)) t) : t.length ≤ P.length := by
  have h1 : (t.map (·.1)).length ≤ ((someP P).map (·.1)).length := sub_len h.keys fun x hx => by
    refine net_sup _ _ fun z => ?_
    obtain ⟨ks, hs, rfl⟩ := h
    unfold canK keysOfF at hx
    rw [List.map_map, List.mem_map] at hx
    obtain ⟨g, hg, rfl⟩ := hx
    exact absurd z (of_decide_eq_true (List.mem_filter.mp hg).2)
  rw [List.length_map, List.length_map] at h1
  exact Nat.le_trans h1 (someP_len P)
/-- values that may be summed -/
def Num (h : Str) (P : Pp) : Prop := h = "sum" → ∀ p ∈ P, p.1 = none ∨ ∃ n, p.1 = some (.i n)
theorem in_two {h : Str} (hh : How h) : dCmp .isin (.str h) (.tuple [.str "count", .str "sum"]) = some (decide (h = "count") || decide (h = "sum")) := by
  cases hh <;> kernel_rfl
theorem c_in {Φ : List FE} {ρ : LS} {s : S1} {i : Nat} {h : Str} (hh : How h) (hi : ρ[i]? = some (.d (.str h))) : ev Φ (.cmp .isin (.nm i) (.tup (.cons (.k (.str "count")) (.cons (.k (.str "sum")) .nil)))) ρ s = some (.bool (decide (h = "count") || decide (h = "sum")), s) := ev_cmp (x := .str h) (y := .tuple [.str "count", .str "sum"]) (s1 := s) (ev_nm hi) rfl (in_two hh)
theorem mul_any {a b : Int} (h : a.natAbs ≤ 1) : dOp .mul (.int a) (.int b) = some (.int (a * b)) := mul_small h
theorem sem_add {h : Str} (hh : How h) {P : Pp} {d : D} (hd : TyD h P d) (o : Option Gv) {n : Int} (hn : n.natAbs ≤ 1) (hnum : Num h [(o, n)]) (hP : P.length ≤ 500) (s : S1) : ∃ e, E_add.sem [.d (.str h), .d d, .d (oD o), .d (.int n)] s = some (e, s) ∧ TyD h (P ++ [(o, n)]) e := by
  rw [show E_add.sem = semOf (pureL F_08) false 5 M_add from rfl]
  have c1 : ev (pureL F_08) (.cmp .eq (.nm 0) (.k (.str "count"))) ([.frz (.str h), .frz d, .frz (oD o), .frz (.int n), .un].map SS.r) s = some (.bool (decide (h = "count")), s) := c_eq rfl
  have c3 : ev (pureL F_08) (.cmp .eq (.nm 0) (.k (.str "sum"))) ([.frz (.str h), .frz d, .frz (oD o), .frz (.int n), .un].map SS.r) s = some (.bool (decide (h = "sum")), s) := c_eq rfl
  have c2 : ev (pureL F_08) (.isN (.nm 2)) ([.frz (.str h), .frz d, .frz (oD o), .frz (.int n), .un].map SS.r) s = some (.bool o.isNone, s) := by
    cases o with
    | none => rfl
    | some g => cases g <;> rfl
  by_cases h1 : h = "count"
  · subst h1
    rw [tyd_count] at hd
    subst hd
    refine ⟨.int (sumS P + n), sem_rt [.frz (.str "count"), .frz (.int (sumS P)), .frz (oD o), .frz (.int n), .un] rfl (runs_rt (run_t c1 rfl (runs_rt (run_ret rfl)))), ?_⟩
    rw [tyd_count, sumS_app]
    simp [sumS]
  rw [decide_eq_false h1] at c1
  cases o with
  | none =>
    refine ⟨d, sem_rt [.frz (.str h), .frz d, .frz .none, .frz (.int n), .un] rfl (runs_nx _ _ (run_skip c1) (runs_rt (run_t c2 rfl (runs_rt (run_ret rfl))))), ?_⟩
    by_cases h2 : h = "sum"
    · subst h2
      rw [tyd_sum] at hd ⊢
      rw [hd, sumV_app]
      simp [sumV, gvI]
    · rw [tyd_else h1 h2] at hd ⊢
      obtain ⟨t, rfl, ht⟩ := hd
      refine ⟨t, rfl, ht.congr fun g => ?_⟩
      rw [someP_app]
      simp [someP]
  | some g =>
    by_cases h2 : h = "sum"
    · subst h2
      rw [tyd_sum] at hd
      subst hd
      obtain ⟨m, rfl⟩ : ∃ m, g = .i m := by
        rcases hnum rfl _ List.mem_cons_self with z | ⟨m, z⟩
        · cases z
        · exact ⟨m, Option.some.inj z⟩
      refine ⟨.int (sumV P + n * m), sem_rt [.frz (.str "sum"), .frz (.int (sumV P)), .frz (.int m), .frz (.int n), .un] rfl (runs_nx _ _ (run_skip c1) (runs_nx _ _ (run_skip c2) (runs_rt (run_t c3 rfl (runs_rt (run_ret ?_)))))), ?_⟩
      · exact ev_op (x := .int (sumV P)) (y := .int (n * m)) (s1 := s) rfl (ev_op (x := .int n) (y := .int m) (s1 := s) rfl rfl (mul_any hn)) rfl
      · rw [tyd_sum, sumV_app]
        simp [sumV, gvI]
    · rw [decide_eq_false h2] at c3
      rw [tyd_else h1 h2] at hd
      obtain ⟨t, rfl, ht⟩ := hd
      have hl := ty_len ht
      have r4 : run (pureL F_08) (.set 4 .o (.b1 .dict (.nm 1))) [.frz (.str h), .frz (.tuple (t.map prI)), .frz g.D, .frz (.int n), .un] s = some (.nx [.frz (.str h), .frz (.tuple (t.map prI)), .frz g.D, .frz (.int n), .own (.dict (kvI t))] s) := run_set (md := .o) (i := 4) (ρ := [.frz (.str h), .frz (.tuple (t.map prI)), .frz g.D, .frz (.int n), .un]) (ev_b1 (x := .tuple (t.map prI)) (s1 := s) rfl (dict_tally ht.keys (by omega))) rfl (by show 4 < 5; decide)
      have r5 := run_put (Φ := pureL F_08) (i := 4) (j := 2) (e := .nm 3) (ρ := [.frz (.str h), .frz (.tuple (t.map prI)), .frz g.D, .frz (.int n), .own (.dict (kvI t))]) (s := s) (L := t) (g := g) (m := n) rfl rfl rfl (by omega)
      have hL := put_len t g (lookI t g + n)
      refine ⟨_, sem_rt [.frz (.str h), .frz (.tuple (t.map prI)), .frz g.D, .frz (.int n), .un] rfl (runs_nx _ _ (run_skip c1) (runs_nx _ _ (run_skip c2) (runs_nx _ _ (run_skip c3) (runs_nx _ _ r4 (runs_nx _ _ r5 (runs_rt (run_ret (ev_call (as := [.d (.dict (kvI (putI t g (lookI t g + n))))]) (s1 := s) rfl P_p08_7 rfl (sem_listed (by omega) s))))))))), ?_⟩
      rw [tyd_else h1 h2]
      refine ⟨_, rfl, (ty_of (put_nodup ht.keys)).congr fun x => ?_⟩
      rw [look_put, ht.look, ht.look, someP_app, net_app]
      show _ = net (someP P) x + net [(g, n)] x
      simp only [net]
      by_cases e : g = x
      · subst e
        simp
      · rw [if_neg e, if_neg e]
        simp
theorem sem_add_all {h : Str} (hh : How h) (x : D) (s : S1) : ∀ (Q P : Pp) (d : D), itOf x = some (Q.map pD) → TyD h P d → (∀ p ∈ Q, p.2.natAbs ≤ 1) → Num h Q → P.length + Q.length ≤ 500 → ∃ e, E_add_all.sem [.d (.str h), .d d, .d x] s = some (e, s) ∧ TyD h (P ++ Q) e := fun Q P d hx hd hq hn hl => by
  rw [show E_add_all.sem = semOf (pureL F_09) false 5 M_add_all from rfl]
  have loop : ∀ (Q P : Pp) (d : D) (a b : SS), TyD h P d → (∀ p ∈ Q, p.2.natAbs ≤ 1) → Num h Q → P.length + Q.length ≤ 500 → ∃ e a' b', forRun (runs (pureL F_09) M_add_all_1) (.two (.nm 3) (.nm 4)) (Q.map pD) [.frz (.str h), .frz d, .frz x, a, b] s = some (.nx [.frz (.str h), .frz e, .frz x, a', b'] s) ∧ TyD h (P ++ Q) e := by
    intro Q
    induction Q with
    | nil => exact fun P d a b hd _ _ _ => ⟨d, a, b, rfl, by rw [List.append_nil]; exact hd⟩
    | cons p Q ih =>
      intro P d a b hd hq hn hl
      simp only [List.length_cons] at hl
      obtain ⟨e, he, hte⟩ := sem_add hh hd p.1 (hq p List.mem_cons_self) (fun z q hq' => by rw [List.mem_singleton.mp hq']; exact hn z p List.mem_cons_self) (by omega) s
      obtain ⟨e', a', b', h1, h2⟩ := ih (P ++ [p]) e (.frz (oD p.1)) (.frz (.int p.2)) hte (fun q hq' => hq q (List.mem_cons_of_mem _ hq')) (fun z q hq' => hn z q (List.mem_cons_of_mem _ hq')) (by rw [List.length_append]; show _ + 1 + _ ≤ 500; omega)
      refine ⟨e', a', b', ?_, by rw [List.append_assoc] at h2; exact h2⟩
      have r := run_set (md := .f) (i := 1) (ρ := [.frz (.str h), .frz d, .frz x, .frz (oD p.1), .frz (.int p.2)]) (ev_call (Φ := pureL F_09) (as := [.d (.str h), .d d, .d (oD p.1), .d (.int p.2)]) (ms := .cons (.nm 0) (.cons (.nm 1) (.cons (.nm 3) (.cons (.nm 4) .nil)))) (f := 8) (s := s) (s1 := s) rfl P_p09_8 rfl he) rfl (by show 1 < 5; decide)
      rw [List.map_cons, forRun, show bindS (.two (.nm 3) (.nm 4)) (pD p) [.frz (.str h), .frz d, .frz x, a, b] = some [.frz (.str h), .frz d, .frz x, .frz (oD p.1), .frz (.int p.2)] from rfl, Option.bind_some, show runs (pureL F_09) M_add_all_1 [.frz (.str h), .frz d, .frz x, .frz (oD p.1), .frz (.int p.2)] s = some (.nx [.frz (.str h), .frz e, .frz x, .frz (oD p.1), .frz (.int p.2)] s) from runs_nx _ _ r runs_nil, Option.bind_some]
      exact h1
  obtain ⟨e, a', b', h1, h2⟩ := loop Q P d .un .un hd hq hn hl
  exact ⟨e, sem_rt [.frz (.str h), .frz d, .frz x, .un, .un] rfl (runs_nx _ _ (run_for (evi_seq (x := x) (s1 := s) rfl hx) h1) (runs_rt (run_ret rfl))), h2⟩
theorem sem_joined {h : Str} (hh : How h) {P Q : Pp} {d e : D} (hd : TyD h P d) (he : TyD h Q e) {k : Int} (hk : k.natAbs ≤ 1) (hl : P.length + Q.length ≤ 500) (s : S1) : ∃ r, E_joined.sem [.d (.str h), .d d, .d e, .d (.int k)] s = some (r, s) ∧ TyD h (P ++ sc k Q) r := by
  rw [show E_joined.sem = semOf (pureL F_10) false 7 M_joined from rfl]
  have c1 : ev (pureL F_10) (.cmp .isin (.nm 0) (.tup (.cons (.k (.str "count")) (.cons (.k (.str "sum")) .nil)))) ([.frz (.str h), .frz d, .frz e, .frz (.int k), .un, .un, .un].map SS.r) s = some (.bool (decide (h = "count") || decide (h = "sum")), s) := c_in hh rfl
  have num : ∀ {a b : Int}, d = .int a → e = .int b → (decide (h = "count") || decide (h = "sum")) = true → semOf (pureL F_10) false 7 M_joined [.d (.str h), .d d, .d e, .d (.int k)] s = some (.int (a + k * b), s) := fun {a b} ha hb hc => by
    subst ha hb
    rw [hc] at c1
    exact sem_rt [.frz (.str h), .frz (.int a), .frz (.int b), .frz (.int k), .un, .un, .un] rfl (runs_rt (run_t c1 rfl (runs_rt (run_ret (ev_op (x := .int a) (y := .int (k * b)) (s1 := s) rfl (ev_op (x := .int k) (y := .int b) (s1 := s) rfl rfl (mul_any hk)) rfl)))))
  by_cases h1 : h = "count"
  · subst h1
    rw [tyd_count] at hd he
    refine ⟨_, num hd he (by decide +kernel), ?_⟩
    rw [tyd_count, sumS_app, sumS_sc]
  by_cases h2 : h = "sum"
  · subst h2
    rw [tyd_sum] at hd he
    refine ⟨_, num hd he (by decide +kernel), ?_⟩
    rw [tyd_sum, sumV_app, sumV_sc]
  rw [decide_eq_false h1, decide_eq_false h2] at c1
  rw [tyd_else h1 h2] at hd he
  obtain ⟨t, rfl, ht⟩ := hd
  obtain ⟨u, rfl, hu⟩ := he
  have lt := ty_len ht
  have lu := ty_len hu
  have r4 : run (pureL F_10) (.set 4 .o (.b1 .dict (.nm 1))) [.frz (.str h), .frz (.tuple (t.map prI)), .frz (.tuple (u.map prI)), .frz (.int k), .un, .un, .un] s = some (.nx [.frz (.str h), .frz (.tuple (t.map prI)), .frz (.tuple (u.map prI)), .frz (.int k), .own (.dict (kvI t)), .un, .un] s) := run_set (md := .o) (i := 4) (ρ := [.frz (.str h), .frz (.tuple (t.map prI)), .frz (.tuple (u.map prI)), .frz (.int k), .un, .un, .un]) (ev_b1 (x := .tuple (t.map prI)) (s1 := s) rfl (dict_tally ht.keys (by omega))) rfl (by show 4 < 7; decide)
  have loop : ∀ (v L : Cn) (a b : SS), L.length + v.length ≤ 1000 → ∃ a' b', forRun (runs (pureL F_10) M_joined_1) (.two (.nm 5) (.nm 6)) (v.map prI) [.frz (.str h), .frz (.tuple (t.map prI)), .frz (.tuple (u.map prI)), .frz (.int k), .own (.dict (kvI L)), a, b] s = some (.nx [.frz (.str h), .frz (.tuple (t.map prI)), .frz (.tuple (u.map prI)), .frz (.int k), .own (.dict (kvI (addUp k L v))), a', b'] s) := by
    intro v
    induction v with
    | nil => exact fun L a b _ => ⟨a, b, rfl⟩
    | cons p v ih =>
      intro L a b hL
      simp only [List.length_cons] at hL
      have hp := put_len L p.1 (lookI L p.1 + k * p.2)
      obtain ⟨a', b', h1⟩ := ih (putI L p.1 (lookI L p.1 + k * p.2)) (.frz p.1.D) (.frz (.int p.2)) (by omega)
      refine ⟨a', b', ?_⟩
      have r := run_put (Φ := pureL F_10) (i := 4) (j := 5) (e := .op .mul (.nm 3) (.nm 6)) (ρ := [.frz (.str h), .frz (.tuple (t.map prI)), .frz (.tuple (u.map prI)), .frz (.int k), .own (.dict (kvI L)), .frz p.1.D, .frz (.int p.2)]) (s := s) (L := L) (g := p.1) (m := k * p.2) rfl rfl (ev_op (x := .int k) (y := .int p.2) (s1 := s) rfl rfl (mul_any hk)) (by omega)
      rw [List.map_cons, forRun, show bindS (.two (.nm 5) (.nm 6)) (prI p) [.frz (.str h), .frz (.tuple (t.map prI)), .frz (.tuple (u.map prI)), .frz (.int k), .own (.dict (kvI L)), a, b] = some [.frz (.str h), .frz (.tuple (t.map prI)), .frz (.tuple (u.map prI)), .frz (.int k), .own (.dict (kvI L)), .frz p.1.D, .frz (.int p.2)] from rfl, Option.bind_some, show runs (pureL F_10) M_joined_1 [.frz (.str h), .frz (.tuple (t.map prI)), .frz (.tuple (u.map prI)), .frz (.int k), .own (.dict (kvI L)), .frz p.1.D, .frz (.int p.2)] s = some (.nx [.frz (.str h), .frz (.tuple (t.map prI)), .frz (.tuple (u.map prI)), .frz (.int k), .own (.dict (kvI (putI L p.1 (lookI L p.1 + k * p.2)))), .frz p.1.D, .frz (.int p.2)] s) from runs_nx _ _ r runs_nil, Option.bind_some]
      exact h1
  obtain ⟨a', b', h5⟩ := loop u t .un .un (by omega)
  have la := addUp_len k u t
  refine ⟨_, sem_rt [.frz (.str h), .frz (.tuple (t.map prI)), .frz (.tuple (u.map prI)), .frz (.int k), .un, .un, .un] rfl (runs_nx _ _ (run_skip c1) (runs_nx _ _ r4 (runs_nx _ _ (run_for (evi_seq (x := .tuple (u.map prI)) (s1 := s) rfl rfl) h5) (runs_rt (run_ret (ev_call (as := [.d (.dict (kvI (addUp k t u)))]) (s1 := s) rfl P_p10_7 rfl (sem_listed (by omega) s))))))), ?_⟩
  rw [tyd_else h1 h2]
  refine ⟨_, rfl, (ty_of (addUp_nodup k u t ht.keys)).congr fun g => ?_⟩
  rw [addUp_look, ht.look, net_nodup u g hu.keys, hu.look, someP_app, net_app, net_sc]
theorem sem_both {h : Str} (hh : How h) {P Q : Pp} {d e : D} (hd : TyD h P d) (he : TyD h Q e) (hl : P.length + Q.length ≤ 500) (s : S1) : ∃ r, E_both.sem [.d (.str h), .d d, .d e] s = some (r, s) ∧ TyD h (P ++ sc 1 Q) r := by
  obtain ⟨r, h1, h2⟩ := sem_joined hh hd he (k := 1) (by decide) hl s
  exact ⟨r, sem_rt [.frz (.str h), .frz d, .frz e] rfl (runs_rt (run_ret (ev_call (as := [.d (.str h), .d d, .d e, .d (.int 1)]) (s1 := s) rfl P_p11_10 rfl h1))), h2⟩
theorem sem_less {h : Str} (hh : How h) {P Q : Pp} {d e : D} (hd : TyD h P d) (he : TyD h Q e) (hl : P.length + Q.length ≤ 500) (s : S1) : ∃ r, E_less.sem [.d (.str h), .d d, .d e] s = some (r, s) ∧ TyD h (P ++ sc (-1) Q) r := by
  obtain ⟨r, h1, h2⟩ := sem_joined hh hd he (k := -1) (by decide) hl s
  exact ⟨r, sem_rt [.frz (.str h), .frz d, .frz e] rfl (runs_rt (run_ret (ev_call (as := [.d (.str h), .d d, .d e, .d (.int (-1))]) (s1 := s) rfl P_p12_10 rfl h1))), h2⟩
theorem sem_empty {h : Str} (hh : How h) (s : S1) : ∃ d, E_empty.sem [.d (.str h)] s = some (d, s) ∧ TyD h [] d := by
  cases hh
  · exact ⟨.int 0, by kernel_rfl, tyd_count.mpr rfl⟩
  · exact ⟨.int 0, by kernel_rfl, tyd_sum.mpr rfl⟩
  · exact ⟨.tuple [], by kernel_rfl, (tyd_else ne2 ne4).mpr ⟨[], rfl, [], ⟨List.nodup_nil, fun g h => absurd rfl h⟩, by simp [canK, keysOfF]⟩⟩
  · exact ⟨.tuple [], by kernel_rfl, (tyd_else ne3 ne5).mpr ⟨[], rfl, [], ⟨List.nodup_nil, fun g h => absurd rfl h⟩, by simp [canK, keysOfF]⟩⟩
end Os
end
section
set_option linter.all false
set_option maxRecDepth 100000
set_option maxHeartbeats 4000000
/-! N11d: the law's own tally; what is told. -/
namespace Os
open PySem PySem.Spec PyProof.Rows L2 PySem.W
theorem ints_of_map {α : Type} (f : α → Int) : ∀ l : List α, intsOf (l.map fun x => PyData.int (f x)) = some (l.map f)
  | [] => rfl
  | x :: l => by
    rw [List.map_cons]
    show (intsOf (l.map _)).map _ = _
    rw [ints_of_map f l]
    rfl
theorem sumS_map : ∀ P : Pp, (P.map (·.2)).sum = sumS P
  | [] => rfl
  | p :: P => by rw [List.map_cons, List.sum_cons, sumS_map P, sumS]
theorem sumV_map : ∀ P : Pp, ((P.filter fun p => p.1.isSome).map fun p => p.2 * gvI p.1).sum = sumV P
  | [] => rfl
  | p :: P => by
    obtain ⟨o, n⟩ := p
    cases o with
    | none =>
      rw [List.filter_cons]
      simp only [Option.isSome_none, Bool.false_eq_true, if_false]
      rw [sumV_map P, sumV]
      simp [gvI]
    | some g =>
      rw [List.filter_cons]
      simp only [Option.isSome_some, if_true]
      rw [List.map_cons, List.sum_cons, sumV_map P, sumV]
theorem some_map : ∀ P : Pp, (P.filter fun p => p.1.isSome).map pD = (someP P).map prI
  | [] => rfl
  | (none, n) :: P => by
    rw [List.filter_cons]
    simp only [Option.isSome_none, Bool.false_eq_true, if_false]
    exact some_map P
  | (some g, n) :: P => by
    rw [List.filter_cons]
    simp only [Option.isSome_some, if_true]
    rw [List.map_cons, some_map P, someP, List.map_cons]
    rfl
theorem sem_w_tally {h : Str} (hh : How h) {P : Pp} (hn : Num h P) (hP : P.length ≤ 500) (hs : ∀ p ∈ P, p.2.natAbs ≤ 1) (s : S1) : ∃ d, E_w_tally.sem [.d (.str h), .d (.list (P.map pD))] s = some (d, s) ∧ TyD h P d := by
  rw [show E_w_tally.sem = semOf (pureL F_18) false 6 M_w_tally from rfl]
  have c1 : ev (pureL F_18) (.cmp .eq (.nm 0) (.k (.str "count"))) ([.frz (.str h), .frz (.list (P.map pD)), .un, .un, .un, .un].map SS.r) s = some (.bool (decide (h = "count")), s) := c_eq rfl
  by_cases h1 : h = "count"
  · subst h1
    refine ⟨.int (sumS P), sem_rt [.frz (.str "count"), .frz (.list (P.map pD)), .un, .un, .un, .un] rfl (runs_rt (run_t c1 rfl (runs_rt (run_ret ?_)))), tyd_count.mpr rfl⟩
    refine ev_b1 (x := .list (P.map fun p => .int p.2)) (ev_comp (xs := P.map pD) (s1 := s) rfl (compRun_all pD (fun p => PyData.int p.2) fun p _ => ⟨_, rfl, rfl, rfl⟩) (by rw [List.length_map]; exact Nat.le_trans hP (by decide))) ?_
    show (intsOf (P.map fun p => PyData.int p.2)).map _ = _
    rw [ints_of_map, Option.map_some, sumS_map]
  rw [decide_eq_false h1] at c1
  have e4 : ev (pureL F_18) (.comp (.tup (.cons (.nm 2) (.cons (.nm 3) .nil))) (.two (.nm 2) (.nm 3)) (.seq (.nm 1)) (.cons (.notN (.nm 2)) .nil) [2, 3]) (vw .f [.frz (.str h), .frz (.list (P.map pD)), .un, .un, .un, .un]) s = some (.list ((someP P).map prI), s) := by
    rw [← some_map]
    refine ev_comp (xs := P.map pD) (s1 := s) rfl (compRun_fil pD (fun p => p.1.isSome) pD fun p _ => ⟨_, rfl, ?_, fun _ => ev_tup (xs := [oD p.1, .int p.2]) rfl (by show 2 ≤ sizeLine; decide)⟩) ?_
    · obtain ⟨o, n⟩ := p
      cases o with
      | none => rfl
      | some g => cases g <;> rfl
    · rw [List.length_map]
      exact Nat.le_trans (List.length_filter_le _ _) (Nat.le_trans hP (by decide))
  have r2 : run (pureL F_18) (.par2 4 5 .f .o (.comp (.tup (.cons (.nm 2) (.cons (.nm 3) .nil))) (.two (.nm 2) (.nm 3)) (.seq (.nm 1)) (.cons (.notN (.nm 2)) .nil) [2, 3]) .dict0) [.frz (.str h), .frz (.list (P.map pD)), .un, .un, .un, .un] s = some (.nx [.frz (.str h), .frz (.list (P.map pD)), .un, .un, .frz (.list ((someP P).map prI)), .own (.dict (kvI []))] s) :=
    run_par2 (evM_of e4 rfl) rfl ⟨by show 4 < 6; decide, by show 5 < 6; decide, by decide⟩
  have c3 : ev (pureL F_18) (.cmp .eq (.nm 0) (.k (.str "sum"))) ([.frz (.str h), .frz (.list (P.map pD)), .un, .un, .frz (.list ((someP P).map prI)), .own (.dict (kvI []))].map SS.r) s = some (.bool (decide (h = "sum")), s) := c_eq rfl
  have sl := someP_len P
  by_cases h2 : h = "sum"
  · subst h2
    refine ⟨.int (sumV P), sem_rt [.frz (.str "sum"), .frz (.list (P.map pD)), .un, .un, .un, .un] rfl (runs_nx _ _ (run_skip c1) (runs_nx _ _ r2 (runs_rt (run_t c3 rfl (runs_rt (run_ret ?_)))))), tyd_sum.mpr rfl⟩
    have ex : (someP P).map prI = (P.filter fun p => p.1.isSome).map pD := (some_map P).symm
    refine ev_b1 (x := .list ((P.filter fun p => p.1.isSome).map fun p => .int (p.2 * gvI p.1))) (ev_comp (xs := (P.filter fun p => p.1.isSome).map pD) (s1 := s) (evi_seq (x := .list ((someP P).map prI)) (s1 := s) rfl (by rw [ex]; rfl)) (compRun_all pD (fun p => PyData.int (p.2 * gvI p.1)) fun p hp => ?_) ?_) ?_
    · rw [List.mem_filter] at hp
      obtain ⟨o, n⟩ := p
      have hq := hn rfl _ hp.1
      have hs' := hs _ hp.1
      rcases hq with z | ⟨m, z⟩
      · simp only at z
        subst z
        exact absurd hp.2 (by simp)
      · simp only at z
        subst z
        exact ⟨_, rfl, rfl, ev_op (x := .int n) (y := .int m) (s1 := s) rfl rfl (mul_any hs')⟩
    · rw [List.length_map]
      exact Nat.le_trans (List.length_filter_le _ _) (Nat.le_trans hP (by decide))
    · show (intsOf ((P.filter fun p => p.1.isSome).map fun p => PyData.int (p.2 * gvI p.1))).map _ = _
      rw [ints_of_map, Option.map_some, sumV_map]
  rw [decide_eq_false h2] at c3
  have loop : ∀ (v L : Cn) (a b : SS), L.length + v.length ≤ 1000 → ∃ a' b', forRun (runs (pureL F_18) M_w_tally_1) (.two (.nm 2) (.nm 3)) (v.map prI) [.frz (.str h), .frz (.list (P.map pD)), a, b, .frz (.list ((someP P).map prI)), .own (.dict (kvI L))] s = some (.nx [.frz (.str h), .frz (.list (P.map pD)), a', b', .frz (.list ((someP P).map prI)), .own (.dict (kvI (addUp 1 L v)))] s) := by
    intro v
    induction v with
    | nil => exact fun L a b _ => ⟨a, b, rfl⟩
    | cons p v ih =>
      intro L a b hL
      simp only [List.length_cons] at hL
      have hp := put_len L p.1 (lookI L p.1 + 1 * p.2)
      obtain ⟨a', b', h1⟩ := ih (putI L p.1 (lookI L p.1 + 1 * p.2)) (.frz p.1.D) (.frz (.int p.2)) (by omega)
      refine ⟨a', b', ?_⟩
      have r := run_put (Φ := pureL F_18) (i := 5) (j := 2) (e := .nm 3) (ρ := [.frz (.str h), .frz (.list (P.map pD)), .frz p.1.D, .frz (.int p.2), .frz (.list ((someP P).map prI)), .own (.dict (kvI L))]) (s := s) (L := L) (g := p.1) (m := 1 * p.2) rfl rfl (by rw [Int.one_mul]; rfl) (by omega)
      rw [List.map_cons, forRun, show bindS (.two (.nm 2) (.nm 3)) (prI p) [.frz (.str h), .frz (.list (P.map pD)), a, b, .frz (.list ((someP P).map prI)), .own (.dict (kvI L))] = some [.frz (.str h), .frz (.list (P.map pD)), .frz p.1.D, .frz (.int p.2), .frz (.list ((someP P).map prI)), .own (.dict (kvI L))] from rfl, Option.bind_some, show runs (pureL F_18) M_w_tally_1 [.frz (.str h), .frz (.list (P.map pD)), .frz p.1.D, .frz (.int p.2), .frz (.list ((someP P).map prI)), .own (.dict (kvI L))] s = some (.nx [.frz (.str h), .frz (.list (P.map pD)), .frz p.1.D, .frz (.int p.2), .frz (.list ((someP P).map prI)), .own (.dict (kvI (putI L p.1 (lookI L p.1 + 1 * p.2))))] s) from runs_nx _ _ r runs_nil, Option.bind_some]
      exact h1
  obtain ⟨a', b', h5⟩ := loop (someP P) [] .un .un (by simp; omega)
  have la := addUp_len 1 (someP P) []
  have hnd : ((addUp 1 [] (someP P)).map (·.1)).Nodup := addUp_nodup 1 (someP P) [] List.nodup_nil
  have ll : (addUp 1 [] (someP P)).length ≤ 1000 := by simp at la; omega
  refine ⟨.tuple ((canK (lookI (addUp 1 [] (someP P))) ((addUp 1 [] (someP P)).map (·.1))).map prI), sem_rt [.frz (.str h), .frz (.list (P.map pD)), .un, .un, .un, .un] rfl (runs_nx _ _ (run_skip c1) (runs_nx _ _ r2 (runs_nx _ _ (run_skip c3) (runs_nx _ _ (run_for (evi_seq (x := .list ((someP P).map prI)) (s1 := s) rfl rfl) h5) (runs_rt (run_ret ?_)))))), ?_⟩
  · refine ev_told (i := 5) (v := 2) rfl (by decide) (by show 2 < 6; decide) ?_ ll
    refine ev_sortK (x := .dict (kvI (addUp 1 [] (someP P)))) (xs := ((addUp 1 [] (someP P)).map (·.1)).map Gv.D) (ks := ((addUp 1 [] (someP P)).map (·.1)).map wrkG) (s1 := s) rfl (walk_I _) rfl rfl (keysRun_map (s := none) fun g _ => sem_w_rank g none) ?_
    rw [← le_wrk]
    exact sortBy_gen (fun a _ b _ => wrk_alike a b) wrk_tup wrk_dep (by rw [List.length_map]; exact Nat.le_trans ll (by decide))
  · rw [tyd_else h1 h2]
    refine ⟨_, rfl, (ty_of hnd).congr fun g => ?_⟩
    rw [addUp_look]
    simp [lookI]
/-! ### what is told -/
def GvOk : Gv → Prop
  | .i n => n.natAbs ≤ 10 ^ 40
  | .s x => PyData.strOk x = true ∧ x.length ≤ 12
theorem g_lay {g : Gv} (h : GvOk g) : g.D.canLay0 = true ∧ g.D.depth = 0 := by
  cases g with
  | i n => exact ⟨rfl, rfl⟩
  | s x => exact ⟨h.1, rfl⟩
theorem lay_all : ∀ {l : List D}, (∀ y ∈ l, y.canLay0 = true ∧ y.depth = 0) → PyData.canLayAll0 l = true ∧ PyData.depthAll l = 0
  | [], _ => ⟨rfl, rfl⟩
  | x :: l, h => by
    obtain ⟨h1, h2⟩ := lay_all (l := l) fun y hy => h y (List.mem_cons_of_mem _ hy)
    obtain ⟨h3, h4⟩ := h x List.mem_cons_self
    refine ⟨?_, ?_⟩
    · rw [PyData.canLayAll0, h1, h3]
      rfl
    · rw [PyData.depthAll, h2, h4]
      rfl
theorem eq_nil {l : List D} (h : ∀ y ∈ l, y.canLay0 = true ∧ y.depth = 0) : dCmp .eq (.list l) (.list []) = some l.isEmpty := by
  obtain ⟨h1, h2⟩ := lay_all h
  show (if SeqAt.shaped (.list l) = true ∧ SeqAt.shaped (.list []) = true then some (PyData.eqv (.list l) (.list [])) else none) = _
  have e : SeqAt.shaped (.list l) = true := by
    unfold SeqAt.shaped
    rw [PyData.canLay0, PyData.depth, h1, h2]
    rfl
  rw [if_pos ⟨e, by decide +kernel⟩]
  cases l <;> rfl
theorem there_ev {Φ : List FE} {h : Str} {t : Cn} (hl : t.length ≤ 1000) (s : S1) : ev Φ (.comp (.nm 3) (.two (.nm 3) (.nm 4)) (.seq (.nm 1)) (.cons (.cmp .gt (.nm 4) (.k (.int 0))) .nil) [3, 4]) (vw .f [.frz (.str h), .frz (.tuple (t.map prI)), .un, .un, .un]) s = some (.list ((t.filter fun p => decide (0 < p.2)).map fun p => p.1.D), s) := by
  refine ev_comp (xs := t.map prI) (s1 := s) rfl (compRun_fil prI (fun p => decide (0 < p.2)) (fun p => p.1.D) fun p _ => ⟨_, rfl, evt_one (ev_cmp (x := .int p.2) (y := .int 0) (s1 := s) rfl ev_k rfl), fun _ => rfl⟩) ?_
  rw [List.length_map]
  exact Nat.le_trans (List.length_filter_le _ _) (Nat.le_trans hl (by decide))
theorem last_at {xs : List D} (h : xs ≠ []) : dIdx (.list xs) (.int (-1)) = dIdx (.list xs) (.int ((xs.length : Int) - 1)) := by
  show L2.atI xs (-1) = L2.atI xs ((xs.length : Int) - 1)
  have h0 : 0 < xs.length := List.length_pos_iff.mpr h
  unfold L2.atI L2.ixN
  have e : ((xs.length : Int) + -1) = (xs.length : Int) - 1 := by omega
  rw [if_neg (by decide), if_pos (by omega), if_pos (by omega), if_pos (by omega)]
  congr 2
theorem tell_same {h : Str} (hh : How h) {P : Pp} {d : D} (hd : TyD h P d) (hP : P.length ≤ 500) (hg : ∀ t, d = .tuple (t.map prI) → Ty (net (someP P)) t → ∀ p ∈ t, GvOk p.1) (s : S1) : ∃ r, E_tell.sem [.d (.str h), .d d] s = some (r, s) ∧ E_w_tell.sem [.d (.str h), .d d] s = some (r, s) ∧ (r = d ∨ r = .none ∨ ∃ g, GvOk g ∧ r = g.D) := by
  rw [show E_tell.sem = semOf (pureL F_13) false 5 M_tell from rfl, show E_w_tell.sem = semOf (pureL F_19) false 5 M_w_tell from rfl]
  have c1 : ev (pureL F_13) (.cmp .isin (.nm 0) (.tup (.cons (.k (.str "count")) (.cons (.k (.str "sum")) .nil)))) ([.frz (.str h), .frz d, .un, .un, .un].map SS.r) s = some (.bool (decide (h = "count") || decide (h = "sum")), s) := c_in hh rfl
  have d1 : ev (pureL F_19) (.cmp .isin (.nm 0) (.tup (.cons (.k (.str "count")) (.cons (.k (.str "sum")) .nil)))) ([.frz (.str h), .frz d, .un, .un, .un].map SS.r) s = some (.bool (decide (h = "count") || decide (h = "sum")), s) := c_in hh rfl
  cases hb : (decide (h = "count") || decide (h = "sum")) with
  | true =>
    rw [hb] at c1 d1
    exact ⟨d, sem_rt [.frz (.str h), .frz d, .un, .un, .un] rfl (runs_rt (run_t c1 rfl (runs_rt (run_ret rfl)))), sem_rt [.frz (.str h), .frz d, .un, .un, .un] rfl (runs_rt (run_t d1 rfl (runs_rt (run_ret rfl)))), .inl rfl⟩
  | false =>
    rw [hb] at c1 d1
    rw [Bool.or_eq_false_iff] at hb
    have h1 := of_decide_eq_false hb.1
    have h2 := of_decide_eq_false hb.2
    rw [tyd_else h1 h2] at hd
    obtain ⟨t, rfl, ht⟩ := hd
    have hgo := hg t rfl ht
    have lt := ty_len ht
    have r2 := run_set (md := .f) (i := 2) (ρ := [.frz (.str h), .frz (.tuple (t.map prI)), .un, .un, .un]) (there_ev (Φ := pureL F_13) (h := h) (t := t) (by omega) s) rfl (by show 2 < 5; decide)
    have q2 := run_set (md := .f) (i := 2) (ρ := [.frz (.str h), .frz (.tuple (t.map prI)), .un, .un, .un]) (there_ev (Φ := pureL F_19) (h := h) (t := t) (by omega) s) rfl (by show 2 < 5; decide)
    have hm : ∀ y ∈ (t.filter fun p => decide (0 < p.2)).map fun p => p.1.D, ∃ g, GvOk g ∧ y = g.D := fun y hy => by
      obtain ⟨p, hp, rfl⟩ := List.mem_map.mp hy
      exact ⟨p.1, hgo p (List.mem_filter.mp hp).1, rfl⟩
    generalize (t.filter fun p => decide (0 < p.2)).map (fun p => p.1.D) = l at r2 q2 hm
    have c2 : ev (pureL F_13) (.not_ (.nm 2)) ([.frz (.str h), .frz (.tuple (t.map prI)), .frz (.list l), .un, .un].map SS.r) s = some (.bool l.isEmpty, s) := by
      rw [ev, show ev (pureL F_13) (.nm 2) ([.frz (.str h), .frz (.tuple (t.map prI)), .frz (.list l), .un, .un].map SS.r) s = some (.list l, s) from rfl, Option.bind_some]
      show some (PyData.bool (!(!l.isEmpty)), s) = _
      rw [Bool.not_not]
    have d2 : ev (pureL F_19) (.cmp .eq (.nm 2) (.lst .nil)) ([.frz (.str h), .frz (.tuple (t.map prI)), .frz (.list l), .un, .un].map SS.r) s = some (.bool l.isEmpty, s) := ev_cmp (x := .list l) (y := .list []) (s1 := s) rfl rfl (eq_nil fun y hy => by
      obtain ⟨g, hg', rfl⟩ := hm y hy
      exact g_lay hg')
    have ef : ∀ Φ, ev Φ (.cmp .eq (.nm 0) (.k (.str "least"))) ([.frz (.str h), .frz (.tuple (t.map prI)), .frz (.list l), .un, .un].map SS.r) s = some (.bool (decide (h = "least")), s) := fun Φ => c_eq rfl
    cases l with
    | nil =>
      exact ⟨.none, sem_rt [.frz (.str h), .frz (.tuple (t.map prI)), .un, .un, .un] rfl (runs_nx _ _ (run_skip c1) (runs_nx _ _ r2 (runs_rt (run_t c2 rfl (runs_rt (run_ret ev_k)))))), sem_rt [.frz (.str h), .frz (.tuple (t.map prI)), .un, .un, .un] rfl (runs_nx _ _ (run_skip d1) (runs_nx _ _ q2 (runs_rt (run_ret (ev_ite_t d2 rfl ev_k))))), .inr (.inl rfl)⟩
    | cons y l =>
      by_cases hle : h = "least"
      · have e1 := ef (pureL F_13)
        have e2 := ef (pureL F_19)
        rw [decide_eq_true hle] at e1 e2
        refine ⟨y, sem_rt [.frz (.str h), .frz (.tuple (t.map prI)), .un, .un, .un] rfl (runs_nx _ _ (run_skip c1) (runs_nx _ _ r2 (runs_nx _ _ (run_skip c2) (runs_rt (run_ret (ev_ite_t e1 rfl (ev_idx (x := .list (y :: l)) (y := .int 0) (s1 := s) rfl ev_k ?_))))))), sem_rt [.frz (.str h), .frz (.tuple (t.map prI)), .un, .un, .un] rfl (runs_nx _ _ (run_skip d1) (runs_nx _ _ q2 (runs_rt (run_ret (ev_ite_f d2 rfl (ev_idx (x := .list (y :: l)) (y := .int 0) (s1 := s) rfl (ev_ite_t e2 rfl ev_k) ?_)))))), .inr (.inr ?_)⟩
        · exact atI_nat (y :: l) 0
        · exact atI_nat (y :: l) 0
        · exact hm y List.mem_cons_self
      · have e1 := ef (pureL F_13)
        have e2 := ef (pureL F_19)
        rw [decide_eq_false hle] at e1 e2
        have hz : dIdx (.list (y :: l)) (.int (((y :: l).length : Int) - 1)) = some ((y :: l)[l.length]'(by simp)) := by
          have e : (((y :: l).length : Int) - 1) = ((l.length : Nat) : Int) := by simp
          rw [e]
          show L2.atI (y :: l) ((l.length : Nat) : Int) = _
          rw [atI_nat, List.getElem?_eq_getElem (by simp)]
        refine ⟨(y :: l)[l.length]'(by simp), sem_rt [.frz (.str h), .frz (.tuple (t.map prI)), .un, .un, .un] rfl (runs_nx _ _ (run_skip c1) (runs_nx _ _ r2 (runs_nx _ _ (run_skip c2) (runs_rt (run_ret (ev_ite_f e1 rfl (ev_idx (x := .list (y :: l)) (y := .int (-1)) (s1 := s) rfl rfl ((last_at (by simp)).trans hz)))))))), sem_rt [.frz (.str h), .frz (.tuple (t.map prI)), .un, .un, .un] rfl (runs_nx _ _ (run_skip d1) (runs_nx _ _ q2 (runs_rt (run_ret (ev_ite_f d2 rfl (ev_idx (x := .list (y :: l)) (y := .int (((y :: l).length : Int) - 1)) (s1 := s) rfl (ev_ite_f e2 rfl (ev_op (x := .int ((y :: l).length : Nat)) (y := .int 1) (s1 := s) (ev_b1 (x := .list (y :: l)) rfl rfl) ev_k rfl)) hz)))))), .inr (.inr ?_)⟩
        exact hm _ (List.getElem_mem _)
end Os
end
section
set_option linter.all false
set_option maxRecDepth 100000
set_option maxHeartbeats 4000000
/-! N11e: what is a tally: the package and the law say the same. -/
namespace Os
open PySem PySem.Spec PyProof.Rows L2 PySem.W
def isPr : D → Bool
  | .tuple xs => decide ((xs.length : Int) = 2)
  | _ => false
def isGv : D → Bool
  | .int _ => true
  | .str z => decide ((z.length : Int) < 13) && inS sgn z
  | _ => false
def isNz : D → Bool
  | .int i => decide (i ≠ 0)
  | _ => false
def okP : D → Bool
  | .tuple xs => isGv (g xs 0) && isNz (g xs 1)
  | _ => false
/-- what may be judged -/
def Gd : D → Prop
  | .str z => PyData.strOk z = true ∧ z.length ≤ 100
  | _ => True
structure Wv (xs : List D) : Prop where
  l : xs.length ≤ 1000
  m : ∀ x ∈ xs, ∀ ys, x = .tuple ys → ∀ y ∈ ys, Gd y
theorem sem_ints (v : D) (s : S1) : E_is_integer_sums.sem [.d v] s = some (.bool (isInt v), s) := by cases v <;> rfl
theorem sem_intv (v : D) (s : S1) : E_is_integer_values.sem [.d v] s = some (.bool (isInt v), s) := by cases v <;> rfl
theorem sem_is_value {v : D} (h : Gd v) (s : S1) : E_is_value.sem [.d v] s = some (.bool (isGv v || isNone v), s) := by
  rw [show E_is_value.sem = semOf (pureL F_01) false 2 M_is_value from rfl]
  cases v with
  | none => rfl
  | bool b => rfl
  | int i => rfl
  | list xs => rfl
  | tuple xs => rfl
  | dict kvs => rfl
  | str z =>
    have c : ev (pureL F_01) (.or_ (.isN (.nm 0)) (.call 0 (.cons (.nm 0) .nil))) ([.frz (.str z), .un].map SS.r) s = some (.bool false, s) := or_sc (x := false) (y := false) rfl fun _ => ev_call (as := [.d (.str z)]) rfl P_p01_0 rfl (sem_intv (.str z) s)
    refine sem_rt [.frz (.str z), .un] rfl (runs_nx _ _ (run_skip c) (runs_rt (run_ret ?_)))
    rw [show (isGv (.str z) || isNone (.str z)) = isGv (.str z) from Bool.or_false _]
    exact and_sc (x := true) (y := decide ((z.length : Int) < 13) && inS sgn z) rfl fun _ => and_sc (ev_cmp (x := .int (z.length : Nat)) (y := .int 13) (ev_b1 (s1 := s) (x := .str z) rfl (len_str h.2)) ev_k rfl) fun _ => ev_in (S := sgn) (v := 1) (i := 0) rfl h.2 (by show 1 < 2; decide)
theorem ev_inV {Φ : List FE} {S z : Str} {ρ : LS} {s : S1} {v i k : Nat} (h : ρ[i]? = some (.d (.str z))) (hk : ρ[k]? = some (.d (.str S))) (hvk : v ≠ k) (hl : z.length ≤ 100) (hv : v < ρ.length) : ev Φ (.b1 .all (.comp (.cmp .isin (.nm v) (.nm k)) (.nm v) (.seq (.nm i)) .nil [v])) ρ s = some (.bool (inS S z), s) := by
  have := ev_all (Φ := Φ) (elt := .cmp .isin (.nm v) (.nm k)) (it := .nm i) (v := v) (ρ := ρ) (s := s) (fun y => decide (cp y ∈ S.cps.toList)) (ev_nm h) (itS hl) hv (fun y hy => by
    obtain ⟨c, hc, rfl⟩ := List.mem_map.mp hy
    refine ev_cmp (x := .str ⟨#[c]⟩) (y := .str S) (s1 := s) (ev_nm ?_) (ev_nm ?_) (chars_in S (c := c))
    · rw [List.getElem?_set_self]
      show v < (ρ.set v .un).length
      rw [List.length_set]
      exact hv
    · rw [List.getElem?_set_ne hvk]
      show (ρ.set v .un)[k]? = _
      rw [List.getElem?_set_ne hvk]
      exact hk) (by rw [List.length_map]; exact len_ok (Nat.le_trans hl (by decide)))
  rw [all_chars] at this
  exact this
theorem sem_w_is_given {v : D} (h : Gd v) (s : S1) : E_w_is_given.sem [.d v] s = some (.bool (isGv v), s) := by
  rw [show E_w_is_given.sem = semOf (pureL F_21) false 3 M_w_is_given from rfl]
  cases v with
  | none => rfl
  | bool b => rfl
  | int i => rfl
  | list xs => rfl
  | tuple xs => rfl
  | dict kvs => rfl
  | str z =>
    have c : ev (pureL F_21) (.isi (.nm 0) .str) ([.frz (.str z), .frz (.str sgn), .un].map SS.r) s = some (.bool true, s) := rfl
    refine sem_rt [.frz (.str z), .un, .un] rfl (runs_nx [.frz (.str z), .frz (.str sgn), .un] s rfl (runs_rt (run_t c rfl (runs_rt (run_ret ?_)))))
    exact and_sc (ev_cmp (x := .int (z.length : Nat)) (y := .int 13) (ev_b1 (s1 := s) (x := .str z) rfl (len_str h.2)) ev_k rfl) fun _ => ev_inV (S := sgn) (v := 2) (i := 0) (k := 1) rfl rfl (by decide) h.2 (by show 2 < 3; decide)
/-- all([f(a, b) for a, b in xs]), all are pairs -/
theorem ev_all2 {Φ : List FE} {elt it : ME} {v u : Nat} {ρ : LS} {s : S1} {xs : List D} (f : D → Bool) {x : D} (hi : ev Φ it ρ s = some (x, s)) (hx : itOf x = some xs) (hv : v < ρ.length) (hu : u < ρ.length) (hp : ∀ y ∈ xs, isPr y = true) (h : ∀ a b, .tuple [a, b] ∈ xs → ev Φ elt (((wipeS ρ [v, u]).set v (.d a)).set u (.d b)) s = some (.bool (f (.tuple [a, b])), s)) (hl : xs.length ≤ sizeLine) :
    ev Φ (.b1 .all (.comp elt (.two (.nm v) (.nm u)) (.seq it) .nil [v, u])) ρ s = some (.bool (xs.all f), s) := by
  have pr : ∀ y ∈ xs, ∃ a b, y = .tuple [a, b] := fun y hy => by
    have := hp y hy
    revert this
    cases y with
    | tuple ys =>
      intro this
      have h2 : ys.length = 2 := by
        have := of_decide_eq_true (show decide ((ys.length : Int) = 2) = true from this)
        omega
      match ys, h2 with
      | [a, b], _ => exact ⟨a, b, rfl⟩
    | _ => intro this; simp [isPr] at this
  refine ev_b1 (x := .list (xs.map fun y => .bool (f y))) (ev_comp (xs := xs) (s1 := s) ?_ ?_ (by rw [List.length_map]; exact hl)) ?_
  · rw [evi, hi, Option.bind_some]
    dsimp only
    rw [hx]
    rfl
  · have := compRun_all (ft := evt Φ .nil) (fe := ev Φ elt) (t := .two (.nm v) (.nm u)) (ρ := wipeS ρ [v, u]) (s := s) (fun x => x) (fun y => PyData.bool (f y)) (xs := xs) (fun y hy => by
      obtain ⟨a, b, rfl⟩ := pr y hy
      refine ⟨_, ?_, rfl, h a b hy⟩
      have e1 : (wipeS ρ [v, u]).length = ρ.length := by
        show ((ρ.set u .un).set v .un).length = _
        rw [List.length_set, List.length_set]
      show ((if v < (wipeS ρ [v, u]).length then some ((wipeS ρ [v, u]).set v (.d a)) else none).bind fun ρ1 => if u < ρ1.length then some (ρ1.set u (.d b)) else none) = _
      rw [if_pos (by rw [e1]; exact hv), Option.bind_some, if_pos (by rw [List.length_set, e1]; exact hu)])
    simpa using this
  · show (boolsOf _).map _ = _
    rw [bools_map]
    simp [Function.comp_def]
/-! ### the order -/
theorem ltM_rk (a b : Gv) : dCmp .lt (rkG a) (rkG b) = some (gl a b) := by
  rw [← rk_lt]
  show dLtM (rkG a) (rkG b) = _
  unfold dLtM
  cases a with
  | i n => cases b with
    | i m =>
      have e : dLt (rkG (.i n)) (rkG (.i m)) = some (dataLt (rkG (.i n)) (rkG (.i m))) := by
        show (if alike (rkG (.i n)) (rkG (.i m)) = true ∧ alike (rkG (.i m)) (rkG (.i n)) = true ∧ (rkG (.i n)).depth ≤ 60 ∧ (rkG (.i m)).depth ≤ 60 then some (dataLt (rkG (.i n)) (rkG (.i m))) else none) = _
        rw [if_pos ⟨by simp [rkG, alike, alikeAll], by simp [rkG, alike, alikeAll], rk_dep _, rk_dep _⟩]
      rw [e]
    | s x =>
      have e : dLt (rkG (.i n)) (rkG (.s x)) = none := by
        show (if alike (rkG (.i n)) (rkG (.s x)) = true ∧ alike (rkG (.s x)) (rkG (.i n)) = true ∧ (rkG (.i n)).depth ≤ 60 ∧ (rkG (.s x)).depth ≤ 60 then some (dataLt (rkG (.i n)) (rkG (.s x))) else none) = _
        rw [if_neg (by simp [rkG, alike, alikeAll])]
      rw [e, rk_lt]
      rfl
  | s x => cases b with
    | i m =>
      have e : dLt (rkG (.s x)) (rkG (.i m)) = none := by
        show (if alike (rkG (.s x)) (rkG (.i m)) = true ∧ alike (rkG (.i m)) (rkG (.s x)) = true ∧ (rkG (.s x)).depth ≤ 60 ∧ (rkG (.i m)).depth ≤ 60 then some (dataLt (rkG (.s x)) (rkG (.i m))) else none) = _
        rw [if_neg (by simp [rkG, alike, alikeAll])]
      rw [e, rk_lt]
      rfl
    | s y =>
      have e : dLt (rkG (.s x)) (rkG (.s y)) = some (dataLt (rkG (.s x)) (rkG (.s y))) := by
        show (if alike (rkG (.s x)) (rkG (.s y)) = true ∧ alike (rkG (.s y)) (rkG (.s x)) = true ∧ (rkG (.s x)).depth ≤ 60 ∧ (rkG (.s y)).depth ≤ 60 then some (dataLt (rkG (.s x)) (rkG (.s y))) else none) = _
        rw [if_pos ⟨by simp [rkG, alike, alikeAll], by simp [rkG, alike, alikeAll], rk_dep _, rk_dep _⟩]
      rw [e]
theorem ltM_wrk (a b : Gv) : dCmp .lt (wrkG a) (wrkG b) = some (gl a b) := by
  rw [← wrk_lt]
  show dLtM (wrkG a) (wrkG b) = _
  unfold dLtM
  have e : dLt (wrkG a) (wrkG b) = some (dataLt (wrkG a) (wrkG b)) := by
    have : dLt (wrkG a) (wrkG b) = if alike (wrkG a) (wrkG b) = true ∧ alike (wrkG b) (wrkG a) = true ∧ (wrkG a).depth ≤ 60 ∧ (wrkG b).depth ≤ 60 then some (dataLt (wrkG a) (wrkG b)) else none := by
      cases a <;> cases b <;> rfl
    rw [this, if_pos ⟨wrk_alike a b, wrk_alike b a, wrk_dep a, wrk_dep b⟩]
  rw [e]
/-- pairs that are told -/
theorem prs_of : ∀ {xs : List D}, (∀ x ∈ xs, isPr x = true ∧ okP x = true) → ∃ t : Cn, xs = t.map prI
  | [], _ => ⟨[], rfl⟩
  | x :: xs, h => by
    obtain ⟨t, e⟩ := prs_of (xs := xs) fun y hy => h y (List.mem_cons_of_mem _ hy)
    obtain ⟨h1, h2⟩ := h x List.mem_cons_self
    have : ∃ p, x = prI p := by
      revert h1 h2
      cases x with
      | tuple ys =>
        intro h1 h2
        have hl : ys.length = 2 := by
          have := of_decide_eq_true (show decide ((ys.length : Int) = 2) = true from h1)
          omega
        match ys, hl with
        | [a, b], _ =>
          have h2 : (isGv a && isNz b) = true := h2
          rw [Bool.and_eq_true] at h2
          obtain ⟨ha, hb⟩ := h2
          cases b with
          | int n =>
            cases a with
            | int i => exact ⟨(.i i, n), rfl⟩
            | str z => exact ⟨(.s z, n), rfl⟩
            | _ => simp [isGv] at ha
          | _ => simp [isNz] at hb
      | _ => intro h1; simp [isPr] at h1
    obtain ⟨p, rfl⟩ := this
    exact ⟨p :: t, by rw [e]; rfl⟩
def ascT (t : Cn) : Bool := (t.zip (t.drop 1)).all fun p => gl p.1.1 p.2.1
theorem zip_mapT {α : Type} (f : α → D) : ∀ l m : List α, zipD (l.map f) (m.map f) = (l.zip m).map fun p => .tuple [f p.1, f p.2]
  | [], _ => rfl
  | _ :: _, [] => rfl
  | a :: l, b :: m => by
    have := zip_mapT f l m
    unfold zipD at this ⊢
    rw [List.map_cons, List.map_cons, List.zipWith_cons_cons, this]
    rfl
theorem drop_one {α : Type} (f : α → D) (xs : List α) : dSlc (.tuple (xs.map f)) (some 1) none = some (.tuple ((xs.drop 1).map f)) := by
  show some (PyData.tuple (cutD (xs.map f) (some 1) none)) = _
  have e1 : HT.sIx (xs.map f).length 0 (some 1) = min 1 (xs.map f).length := by
    unfold HT.sIx
    simp
  have e2 : HT.sIx (xs.map f).length (xs.map f).length none = (xs.map f).length := rfl
  unfold cutD
  rw [e1, e2, List.take_of_length_le (by rw [List.length_drop]; omega), List.map_drop]
  by_cases h : 1 ≤ (xs.map f).length
  · rw [Nat.min_eq_left h]
  · have h0 : (xs.map f).length = 0 := by omega
    rw [h0]
    have : xs.map f = [] := List.eq_nil_of_length_eq_zero h0
    rw [this]
    rfl
/-- each is below the next -/
theorem asc_ev {Φ : List FE} {ρ : LS} {s : S1} {t : Cn} {i u v c : Nat} {F : FE} {rk : Gv → D} (hi : ρ[i]? = some (.d (.tuple (t.map prI)))) (hu : u < ρ.length) (hv : v < ρ.length) (huv : u ≠ v) (hc : Φ[c]? = some F) (ha : F.ar = 1) (hF : ∀ g s, F.sem [.d g.D] s = some (rk g, s)) (hr : ∀ a b, dCmp .lt (rk a) (rk b) = some (gl a b)) (hl : t.length ≤ 1000) :
    ev Φ (.b1 .all (.comp (.cmp .lt (.call c (.cons (.idx (.nm u) (.k (.int 0))) .nil)) (.call c (.cons (.idx (.nm v) (.k (.int 0))) .nil))) (.two (.nm u) (.nm v)) (.zip (.nm i) (.slc (.nm i) (.yes (.k (.int 1))) .no)) .nil [u, v])) ρ s = some (.bool (ascT t), s) := by
  have e3 : ev Φ (.nm i) ρ s = some (.tuple (t.map prI), s) := ev_nm hi
  have es : ev Φ (.slc (.nm i) (.yes (.k (.int 1))) .no) ρ s = some (.tuple ((t.drop 1).map prI), s) := ev_slc_from (x := .tuple (t.map prI)) (j := 1) (s1 := s) e3 ev_k (drop_one prI t)
  have it : evi Φ (.zip (.nm i) (.slc (.nm i) (.yes (.k (.int 1))) .no)) ρ s = some ((t.zip (t.drop 1)).map fun p => .tuple [prI p.1, prI p.2], s) := by
    rw [evi, e3, Option.bind_some]
    simp only [es, Option.bind_some]
    rw [zip_mapT]
  have e1 : (wipeS ρ [u, v]).length = ρ.length := by
    show ((ρ.set v .un).set u .un).length = _
    rw [List.length_set, List.length_set]
  refine ev_b1 (x := .list ((t.zip (t.drop 1)).map fun p => .bool (gl p.1.1 p.2.1))) (ev_comp it (compRun_all (fun p : (Gv × Int) × (Gv × Int) => PyData.tuple [prI p.1, prI p.2]) (fun p => PyData.bool (gl p.1.1 p.2.1)) fun p hp => ?_) ?_) ?_
  · refine ⟨((wipeS ρ [u, v]).set u (.d (prI p.1))).set v (.d (prI p.2)), ?_, rfl, ?_⟩
    · show ((if u < (wipeS ρ [u, v]).length then some ((wipeS ρ [u, v]).set u (.d (prI p.1))) else none).bind fun ρ1 => if v < ρ1.length then some (ρ1.set v (.d (prI p.2))) else none) = _
      rw [if_pos (by rw [e1]; exact hu), Option.bind_some, if_pos (by rw [List.length_set, e1]; exact hv)]
    · have g1 : (((wipeS ρ [u, v]).set u (.d (prI p.1))).set v (.d (prI p.2)))[u]? = some (.d (prI p.1)) := by
        rw [List.getElem?_set_ne huv.symm, List.getElem?_set_self (by rw [e1]; exact hu)]
      have g2 : (((wipeS ρ [u, v]).set u (.d (prI p.1))).set v (.d (prI p.2)))[v]? = some (.d (prI p.2)) := List.getElem?_set_self (by rw [List.length_set, e1]; exact hv)
      refine ev_cmp (x := rk p.1.1) (y := rk p.2.1) (s1 := s) ?_ ?_ (hr _ _)
      · exact ev_call (as := [.d p.1.1.D]) (s1 := s) (eva_cons (s1 := s) (ev_idx (x := prI p.1) (y := .int 0) (s1 := s) (ev_nm g1) ev_k rfl) eva_nil) hc (by rw [ha]; rfl) (hF _ s)
      · exact ev_call (as := [.d p.2.1.D]) (s1 := s) (eva_cons (s1 := s) (ev_idx (x := prI p.2) (y := .int 0) (s1 := s) (ev_nm g2) ev_k rfl) eva_nil) hc (by rw [ha]; rfl) (hF _ s)
  · rw [List.length_map, List.length_zip]
    exact Nat.le_trans (Nat.min_le_left _ _) (len_ok hl)
  · show (boolsOf _).map _ = _
    rw [bools_map]
    unfold ascT
    simp [Function.comp_def]
theorem is_pr_ev {Φ : List FE} {ρ : LS} {s : S1} {v : Nat} {xs : List D} (hi : ρ[1]? = some (.d (.tuple xs))) (hv : v < ρ.length) (hl : xs.length ≤ 1000) :
    ev Φ (.or_ (.not_ (.isi (.nm 1) .tuple)) (.not_ (.b1 .all (.comp (.and_ (.isi (.nm v) .tuple) (.cmp .eq (.b1 .len (.nm v)) (.k (.int 2)))) (.nm v) (.seq (.nm 1)) .nil [v])))) ρ s = some (.bool (!xs.all isPr), s) := by
  have ht : ev Φ (.isi (.nm 1) .tuple) ρ s = some (.bool true, s) := ev_isi (x := .tuple xs) (ev_nm hi)
  refine or_sc (x := false) (not_b ht) fun _ => not_b (ev_all isPr (x := .tuple xs) (ev_nm hi) rfl hv (fun y hy => ?_) (len_ok hl))
  have hy' : ((wipeS ρ [v]).set v (.d y))[v]? = some (.d y) := List.getElem?_set_self (by show v < (ρ.set v .un).length; rw [List.length_set]; exact hv)
  cases y with
  | tuple ys => exact and_sc (x := true) (y := decide ((ys.length : Int) = 2)) (ev_isi (x := .tuple ys) (ev_nm hy')) fun _ => ev_cmp (x := .int (ys.length : Nat)) (y := .int 2) (s1 := s) (ev_len hy') ev_k rfl
  | none => exact and_sc (x := false) (y := false) (ev_isi (x := .none) (ev_nm hy')) nofun
  | bool b => exact and_sc (x := false) (y := false) (ev_isi (x := .bool b) (ev_nm hy')) nofun
  | int b => exact and_sc (x := false) (y := false) (ev_isi (x := .int b) (ev_nm hy')) nofun
  | str b => exact and_sc (x := false) (y := false) (ev_isi (x := .str b) (ev_nm hy')) nofun
  | list b => exact and_sc (x := false) (y := false) (ev_isi (x := .list b) (ev_nm hy')) nofun
  | dict b => exact and_sc (x := false) (y := false) (ev_isi (x := .dict b) (ev_nm hy')) nofun
theorem tally_same {h : Str} (hh : How h) {v : D} (hw : ∀ xs, v = .tuple xs → Wv xs) (s : S1) : ∃ b, E_is_tally.sem [.d (.str h), .d v] s = some (.bool b, s) ∧ E_w_is_due.sem [.d (.str h), .d v] s = some (.bool b, s) := by
  rw [show E_is_tally.sem = semOf (pureL F_05) false 7 M_is_tally from rfl, show E_w_is_due.sem = semOf (pureL F_22) false 6 M_w_is_due from rfl]
  have c1 : ev (pureL F_05) (.cmp .isin (.nm 0) (.tup (.cons (.k (.str "count")) (.cons (.k (.str "sum")) .nil)))) ([.frz (.str h), .frz v, .un, .un, .un, .un, .un].map SS.r) s = some (.bool (decide (h = "count") || decide (h = "sum")), s) := c_in hh rfl
  have d1 : ev (pureL F_22) (.cmp .isin (.nm 0) (.tup (.cons (.k (.str "count")) (.cons (.k (.str "sum")) .nil)))) ([.frz (.str h), .frz v, .un, .un, .un, .un].map SS.r) s = some (.bool (decide (h = "count") || decide (h = "sum")), s) := c_in hh rfl
  cases hb : (decide (h = "count") || decide (h = "sum")) with
  | true =>
    rw [hb] at c1 d1
    refine ⟨isInt v, sem_rt [.frz (.str h), .frz v, .un, .un, .un, .un, .un] rfl (runs_rt (run_t c1 rfl (runs_rt (run_ret (ev_call (as := [.d v]) (s1 := s) rfl P_p05_4 rfl (sem_ints v s)))))), sem_rt [.frz (.str h), .frz v, .un, .un, .un, .un] rfl (runs_rt (run_t d1 rfl (runs_rt (run_ret ?_))))⟩
    cases v <;> rfl
  | false =>
    rw [hb] at c1 d1
    have nt : ∀ c, isTy .tuple v = false → c = c → ∃ b, semOf (pureL F_05) false 7 M_is_tally [.d (.str h), .d v] s = some (.bool b, s) ∧ semOf (pureL F_22) false 6 M_w_is_due [.d (.str h), .d v] s = some (.bool b, s) := fun (c : Nat) ht _ => by
      have q1 : ev (pureL F_05) (.isi (.nm 1) .tuple) ([.frz (.str h), .frz v, .un, .un, .un, .un, .un].map SS.r) s = some (.bool false, s) := by rw [← ht]; exact ev_isi rfl
      have q2 : ev (pureL F_22) (.isi (.nm 1) .tuple) ([.frz (.str h), .frz v, .un, .un, .un, .un].map SS.r) s = some (.bool false, s) := by rw [← ht]; exact ev_isi rfl
      exact ⟨false, sem_rt [.frz (.str h), .frz v, .un, .un, .un, .un, .un] rfl (runs_nx _ _ (run_skip c1) (runs_rt (run_t (x := .bool true) (s1 := s) (or_sc (x := true) (y := true) (not_b q1) nofun) rfl (runs_rt (run_ret ev_k))))), sem_rt [.frz (.str h), .frz v, .un, .un, .un, .un] rfl (runs_nx _ _ (run_skip d1) (runs_rt (run_t (x := .bool true) (s1 := s) (or_sc (x := true) (y := true) (not_b q2) nofun) rfl (runs_rt (run_ret ev_k)))))⟩
    cases v with
    | none => exact nt 0 rfl rfl
    | bool b => exact nt 0 rfl rfl
    | int b => exact nt 0 rfl rfl
    | str b => exact nt 0 rfl rfl
    | list b => exact nt 0 rfl rfl
    | dict b => exact nt 0 rfl rfl
    | tuple xs =>
      have W := hw xs rfl
      have c2 := is_pr_ev (Φ := pureL F_05) (ρ := [.frz (.str h), .frz (.tuple xs), .un, .un, .un, .un, .un].map SS.r) (s := s) (v := 2) (xs := xs) rfl (by show 2 < 7; decide) W.l
      have d2 := is_pr_ev (Φ := pureL F_22) (ρ := [.frz (.str h), .frz (.tuple xs), .un, .un, .un, .un].map SS.r) (s := s) (v := 2) (xs := xs) rfl (by show 2 < 6; decide) W.l
      cases hp : xs.all isPr with
      | false =>
        rw [hp] at c2 d2
        exact ⟨false, sem_rt [.frz (.str h), .frz (.tuple xs), .un, .un, .un, .un, .un] rfl (runs_nx _ _ (run_skip c1) (runs_rt (run_t c2 rfl (runs_rt (run_ret ev_k))))), sem_rt [.frz (.str h), .frz (.tuple xs), .un, .un, .un, .un] rfl (runs_nx _ _ (run_skip d1) (runs_rt (run_t d2 rfl (runs_rt (run_ret ev_k)))))⟩
      | true =>
        rw [hp] at c2 d2
        have hpr := List.all_eq_true.mp hp
        have c3 : ev (pureL F_05) (.not_ (.b1 .all (.comp (.and_ (.call 1 (.cons (.nm 3) .nil)) (.and_ (.notN (.nm 3)) (.and_ (.call 4 (.cons (.nm 4) .nil)) (.cmp .ne (.nm 4) (.k (.int 0)))))) (.two (.nm 3) (.nm 4)) (.seq (.nm 1)) .nil [3, 4]))) ([.frz (.str h), .frz (.tuple xs), .un, .un, .un, .un, .un].map SS.r) s = some (.bool (!xs.all okP), s) := by
          refine not_b (ev_all2 okP (x := .tuple xs) rfl rfl (by show 3 < 7; decide) (by show 4 < 7; decide) hpr (fun a b hab => ?_) (len_ok W.l))
          have ga := W.m _ hab _ rfl a (by simp)
          have e : okP (.tuple [a, b]) = ((isGv a || isNone a) && ((!isNone a) && (isInt b && isNz b))) := by
            show (isGv a && isNz b) = _
            have e1 : (isInt b && isNz b) = isNz b := by cases b <;> simp [isInt, isNz]
            rw [e1]
            cases a <;> simp [isGv, isNone]
          rw [e]
          refine and_sc (ev_call (as := [.d a]) (s1 := s) rfl P_p05_1 rfl (sem_is_value ga s)) fun _ => and_sc rfl fun _ => and_sc (ev_call (as := [.d b]) (s1 := s) rfl P_p05_4 rfl (sem_ints b s)) fun hb => ?_
          cases b with
          | int i => exact ev_cmp (x := .int i) (y := .int 0) (s1 := s) rfl ev_k (by
              show some (!decide (i = 0)) = some (decide (i ≠ 0))
              simp)
          | _ => simp [isInt] at hb
        have loop : ∀ (ys : List D) (a b : SS), (∀ y ∈ ys, isPr y = true) → (∀ x ∈ ys, ∀ zs, x = .tuple zs → ∀ y ∈ zs, Gd y) →
            (ys.all okP = true → ∃ a' b', forRun (runs (pureL F_22) M_w_is_due_1) (.two (.nm 3) (.nm 4)) ys [.frz (.str h), .frz (.tuple xs), .un, a, b, .un] s = some (.nx [.frz (.str h), .frz (.tuple xs), .un, a', b', .un] s)) ∧
            (ys.all okP = false → forRun (runs (pureL F_22) M_w_is_due_1) (.two (.nm 3) (.nm 4)) ys [.frz (.str h), .frz (.tuple xs), .un, a, b, .un] s = some (.rt (.bool false) s)) := by
          intro ys
          induction ys with
          | nil => exact fun a b _ _ => ⟨fun _ => ⟨a, b, rfl⟩, nofun⟩
          | cons y ys ih =>
            intro a b hpy hgy
            obtain ⟨p, q, rfl⟩ : ∃ p q, y = .tuple [p, q] := by
              have := hpy y List.mem_cons_self
              revert this
              cases y with
              | tuple zs =>
                intro this
                have h2 : zs.length = 2 := by
                  have := of_decide_eq_true (show decide ((zs.length : Int) = 2) = true from this)
                  omega
                match zs, h2 with
                | [p, q], _ => exact ⟨p, q, rfl⟩
              | _ => intro this; simp [isPr] at this
            have gp := hgy _ List.mem_cons_self _ rfl p (by simp)
            have cc : ev (pureL F_22) (.or_ (.not_ (.call 21 (.cons (.nm 3) .nil))) (.or_ (.not_ (.isi (.nm 4) .int)) (.or_ (.isi (.nm 4) .bool) (.cmp .eq (.nm 4) (.k (.int 0)))))) ([.frz (.str h), .frz (.tuple xs), .un, .frz p, .frz q, .un].map SS.r) s = some (.bool (!okP (.tuple [p, q])), s) := by
              have e : (!okP (.tuple [p, q])) = (!isGv p || !isNz q) := Bool.not_and _ _
              rw [e]
              refine or_sc (not_b (ev_call (as := [.d p]) (s1 := s) rfl P_p22_21 rfl (sem_w_is_given gp s))) fun _ => ?_
              cases q with
              | int i =>
                have e : (!isNz (.int i)) = (false || (false || decide (i = 0))) := by
                  show (!decide (i ≠ 0)) = _
                  simp
                rw [e]
                exact or_sc rfl fun _ => or_sc rfl fun _ => ev_cmp (x := .int i) (y := .int 0) (s1 := s) rfl ev_k rfl
              | none => rfl
              | bool b => rfl
              | str b => rfl
              | list b => rfl
              | tuple b => rfl
              | dict b => rfl
            have bd : bindS (.two (.nm 3) (.nm 4)) (.tuple [p, q]) [.frz (.str h), .frz (.tuple xs), .un, a, b, .un] = some [.frz (.str h), .frz (.tuple xs), .un, .frz p, .frz q, .un] := rfl
            obtain ⟨i1, i2⟩ := ih (.frz p) (.frz q) (fun z hz => hpy z (List.mem_cons_of_mem _ hz)) fun x hx => hgy x (List.mem_cons_of_mem _ hx)
            rw [List.all_cons]
            cases ho : okP (.tuple [p, q]) with
            | true =>
              rw [ho] at cc
              rw [Bool.true_and]
              have rr : runs (pureL F_22) M_w_is_due_1 [.frz (.str h), .frz (.tuple xs), .un, .frz p, .frz q, .un] s = some (.nx [.frz (.str h), .frz (.tuple xs), .un, .frz p, .frz q, .un] s) := runs_nx _ _ (run_skip cc) runs_nil
              refine ⟨fun ha => ?_, fun ha => ?_⟩
              · obtain ⟨a', b', h1⟩ := i1 ha
                refine ⟨a', b', ?_⟩
                rw [forRun, bd, Option.bind_some, rr, Option.bind_some]
                exact h1
              · rw [forRun, bd, Option.bind_some, rr, Option.bind_some]
                exact i2 ha
            | false =>
              rw [ho] at cc
              refine ⟨nofun, fun _ => ?_⟩
              rw [forRun, bd, Option.bind_some, show runs (pureL F_22) M_w_is_due_1 [.frz (.str h), .frz (.tuple xs), .un, .frz p, .frz q, .un] s = some (.rt (.bool false) s) from runs_rt (run_t cc rfl (runs_rt (run_ret ev_k))), Option.bind_some]
        obtain ⟨l1, l2⟩ := loop xs .un .un hpr W.m
        cases ho : xs.all okP with
        | false =>
          rw [ho] at c3
          have lr := l2 ho
          refine ⟨false, sem_rt [.frz (.str h), .frz (.tuple xs), .un, .un, .un, .un, .un] rfl (runs_nx _ _ (run_skip c1) (runs_nx _ _ (run_skip c2) (runs_rt (run_t c3 rfl (runs_rt (run_ret ev_k)))))), sem_rt [.frz (.str h), .frz (.tuple xs), .un, .un, .un, .un] rfl (runs_nx _ _ (run_skip d1) (runs_nx _ _ (run_skip d2) (runs_rt (run_for (evi_seq (x := .tuple xs) (s1 := s) rfl rfl) lr))))⟩
        | true =>
          rw [ho] at c3
          obtain ⟨a', b', lr⟩ := l1 ho
          obtain ⟨t, rfl⟩ := prs_of fun x hx => ⟨hpr x hx, List.all_eq_true.mp ho x hx⟩
          have lt : t.length ≤ 1000 := by simpa using W.l
          refine ⟨ascT t, sem_rt [.frz (.str h), .frz (.tuple (t.map prI)), .un, .un, .un, .un, .un] rfl (runs_nx _ _ (run_skip c1) (runs_nx _ _ (run_skip c2) (runs_nx _ _ (run_skip c3) (runs_rt (run_ret ?_))))), sem_rt [.frz (.str h), .frz (.tuple (t.map prI)), .un, .un, .un, .un] rfl (runs_nx _ _ (run_skip d1) (runs_nx _ _ (run_skip d2) (runs_nx _ _ (run_for (evi_seq (x := .tuple (t.map prI)) (s1 := s) rfl rfl) lr) (runs_rt (run_ret ?_)))))⟩
          · exact asc_ev (i := 1) (u := 5) (v := 6) (c := 2) (F := E_rank) (rk := rkG) rfl (by show 5 < 7; decide) (by show 6 < 7; decide) (by decide) P_p05_2 rfl sem_rank ltM_rk lt
          · exact asc_ev (i := 1) (u := 2) (v := 5) (c := 14) (F := E_w_rank) (rk := wrkG) rfl (by show 2 < 6; decide) (by show 5 < 6; decide) (by decide) P_p22_14 rfl sem_w_rank ltM_wrk lt
end Os
end
section
set_option linter.all false
set_option maxRecDepth 100000
set_option maxHeartbeats 4000000
/-! N11f: drawn values, drawn pairs. -/
namespace Os
open PySem PySem.Spec PyProof.Rows L2 PySem.W
/-- what is drawn of a kind -/
def OvOk (num : Bool) : Option Gv → Prop
  | none => True
  | some (.i n) => n.natAbs ≤ 10 ^ 20
  | some (.s x) => num = false ∧ PyData.strOk x = true ∧ x.length ≤ 12
def kindS (num : Bool) : Str := if num = true then "number" else "text"
theorem num_at {k : Nat} (h : k < 8) : ∃ n : Int, n.natAbs ≤ 10 ^ 20 ∧ dIdx (.list [.int 0, .int 1, .int 2, .int (-3), .int 7, .int 1000000000, .int (-100000000000000000000), .int 2]) (.int (k : Nat)) = some (.int n) := by
  match k, h with
  | 0, _ => exact ⟨0, by decide, rfl⟩
  | 1, _ => exact ⟨1, by decide, rfl⟩
  | 2, _ => exact ⟨2, by decide, rfl⟩
  | 3, _ => exact ⟨-3, by decide, rfl⟩
  | 4, _ => exact ⟨7, by decide, rfl⟩
  | 5, _ => exact ⟨1000000000, by decide, rfl⟩
  | 6, _ => exact ⟨-100000000000000000000, by decide, rfl⟩
  | 7, _ => exact ⟨2, by decide, rfl⟩
theorem txt_at {k : Nat} (h : k < 6) : ∃ x : Str, (PyData.strOk x = true ∧ x.length ≤ 12) ∧ dIdx (.list [.str "", .str "a", .str "b", .str "ab", .str "Z-1", .str "a b_c"]) (.int (k : Nat)) = some (.str x) := by
  match k, h with
  | 0, _ => exact ⟨"", by decide +kernel, rfl⟩
  | 1, _ => exact ⟨"a", by decide +kernel, rfl⟩
  | 2, _ => exact ⟨"b", by decide +kernel, rfl⟩
  | 3, _ => exact ⟨"ab", by decide +kernel, rfl⟩
  | 4, _ => exact ⟨"Z-1", by decide +kernel, rfl⟩
  | 5, _ => exact ⟨"a b_c", by decide +kernel, rfl⟩
theorem sem_given (num : Bool) (S : Src) : ∃ o S', OvOk num o ∧ E_w_draw_given_value.sem [.src, .d (.str (kindS num))] (some S) = some (oD o, some S') := by
  rw [show E_w_draw_given_value.sem = semOf (pureL F_17) false 2 M_w_draw_given_value from rfl]
  obtain ⟨k, S1, hk, h1⟩ := ev_pick (Φ := pureL F_17) (p := 15) (i := 0) (ρ := [.src, .d (.str (kindS num))]) P_p17_15 (e := .k (.int 7)) (n := 7) (S := S) (S1 := S) rfl ev_k (by decide) (by decide)
  have c1 : ev (pureL F_17) (.cmp .eq (.call 15 (.src 0 (.cons (.k (.int 7)) .nil))) (.k (.int 6))) ([.src, .frz (.str (kindS num))].map SS.r) (some S) = some (.bool (decide ((k : Int) = 6)), some S1) := ev_cmp (x := .int (k : Nat)) (y := .int 6) (s1 := some S1) h1 ev_k rfl
  by_cases k6 : k = 6
  · rw [decide_eq_true (show (k : Int) = 6 by omega)] at c1
    exact ⟨none, S1, trivial, sem_rt [.src, .frz (.str (kindS num))] rfl (runs_rt (run_t c1 rfl (runs_rt (run_ret ev_k))))⟩
  rw [decide_eq_false (show ¬ (k : Int) = 6 by omega)] at c1
  have c2 : ev (pureL F_17) (.cmp .eq (.nm 1) (.k (.str "number"))) ([.src, .frz (.str (kindS num))].map SS.r) (some S1) = some (.bool (decide (kindS num = "number")), some S1) := c_eq rfl
  cases num with
  | true =>
    rw [show decide (kindS true = "number") = true from by decide +kernel] at c2
    obtain ⟨j, S2, hj, h2⟩ := ev_pick (Φ := pureL F_17) (p := 15) (i := 0) (ρ := [.src, .d (.str (kindS true))]) P_p17_15 (e := .k (.int 8)) (n := 8) (S := S1) (S1 := S1) rfl ev_k (by decide) (by decide)
    obtain ⟨n, hn, hi⟩ := num_at hj
    refine ⟨some (.i n), S2, hn, sem_rt [.src, .frz (.str (kindS true))] rfl (runs_nx _ _ (run_skip c1) (runs_rt (run_t c2 rfl (runs_rt (run_ret ?_)))))⟩
    exact ev_idx (s1 := some S1) (by kernel_rfl) h2 hi
  | false =>
    rw [show decide (kindS false = "number") = false from by decide +kernel] at c2
    obtain ⟨j, S2, hj, h2⟩ := ev_pick (Φ := pureL F_17) (p := 15) (i := 0) (ρ := [.src, .d (.str (kindS false))]) P_p17_15 (e := .k (.int 6)) (n := 6) (S := S1) (S1 := S1) rfl ev_k (by decide) (by decide)
    obtain ⟨x, hx, hi⟩ := txt_at hj
    refine ⟨some (.s x), S2, ⟨rfl, hx⟩, sem_rt [.src, .frz (.str (kindS false))] rfl (runs_nx _ _ (run_skip c1) (runs_nx _ _ (run_skip c2) (runs_rt (run_ret ?_))))⟩
    exact ev_idx (s1 := some S1) (by kernel_rfl) h2 hi
structure POk (h : Str) (P : Pp) : Prop where
  s : ∀ p ∈ P, p.2.natAbs ≤ 1
  v : ∀ p ∈ P, OvOk (decide (h = "sum")) p.1
theorem POk.num {h : Str} {P : Pp} (k : POk h P) : Num h P := fun e p hp => by
  have := k.v p hp
  rw [decide_eq_true e] at this
  cases ho : p.1 with
  | none => exact .inl rfl
  | some g =>
    cases g with
    | i n => exact .inr ⟨n, rfl⟩
    | s x =>
      rw [ho] at this
      exact absurd this.1 (by decide)
theorem ov_weak {b : Bool} {o : Option Gv} (h : OvOk true o) : OvOk b o := by
  cases o with
  | none => trivial
  | some g =>
    cases g with
    | i n => exact h
    | s x => exact absurd h.1 (by decide)
theorem p_imm (p : Option Gv × Int) : imm (pD p) = true := by
  obtain ⟨o, n⟩ := p
  cases o with
  | none => rfl
  | some g => cases g <;> rfl
theorem run_unp2i {Φ : List FE} {i j : Nat} {e : ME} {ρ : LSS} {s s1 : S1} {p q : D} (h : ev Φ e (vw .i ρ) s = some (.tuple [p, q], s1)) (hm : imm (.tuple [p, q]) = true) (hi : i < ρ.length) (hj : j < ρ.length) : run Φ (.unp (.two (.nm i) (.nm j)) .i e) ρ s = some (.nx ((ρ.set i (.frz p)).set j (.frz q)) s1) := by
  have hv : evM Φ .i e ρ s = some (.frz (.tuple [p, q]), s1) := evM_of h (by
    show (if imm (.tuple [p, q]) = true then some (SS.frz (.tuple [p, q])) else none) = _
    rw [if_pos hm])
  rw [run, hv]
  simp [bindS, hi, hj]
abbrev fp (h : Str) (P : Pp) (a b c : SS) : LSS := [.src, .frz (.str h), .frz (.int 9), .own (.list (P.map pD)), a, b, c]
theorem pair_turn {h : Str} {P : Pp} (hp : POk h P) (hl : P.length ≤ 100) (i : Int) (b c : SS) (S : Src) : ∃ P' b' c' S', POk h P' ∧ P'.length ≤ P.length + 2 ∧ runs (pureL F_20) M_w_draw_pairs_1 (fp h P (.frz (.int i)) b c) (some S) = some (.nx (fp h P' (.frz (.int i)) b' c') (some S')) := by
  have kind : ∃ (num : Bool) (S1 : Src), (h = "sum" → num = true) ∧ ev (pureL F_20) (.ite (.or_ (.cmp .eq (.nm 1) (.k (.str "sum"))) (.cmp .eq (.call 15 (.src 0 (.cons (.k (.int 2)) .nil))) (.k (.int 0)))) (.k (.str "number")) (.k (.str "text"))) (vw .f (fp h P (.frz (.int i)) b c)) (some S) = some (.str (kindS num), some S1) := by
    have c1 : ev (pureL F_20) (.cmp .eq (.nm 1) (.k (.str "sum"))) (vw .f (fp h P (.frz (.int i)) b c)) (some S) = some (.bool (decide (h = "sum")), some S) := c_eq rfl
    by_cases hs : h = "sum"
    · rw [decide_eq_true hs] at c1
      exact ⟨true, S, fun _ => rfl, ev_ite_t (x := .bool true) (s1 := some S) (by rw [ev, c1]; rfl) rfl ev_k⟩
    · rw [decide_eq_false hs] at c1
      obtain ⟨k, S1, hk, h1⟩ := ev_pick (Φ := pureL F_20) (p := 15) (i := 0) (ρ := vw .f (fp h P (.frz (.int i)) b c)) P_p20_15 (e := .k (.int 2)) (n := 2) (S := S) (S1 := S) rfl ev_k (by decide) (by decide)
      have c2 : ev (pureL F_20) (.or_ (.cmp .eq (.nm 1) (.k (.str "sum"))) (.cmp .eq (.call 15 (.src 0 (.cons (.k (.int 2)) .nil))) (.k (.int 0)))) (vw .f (fp h P (.frz (.int i)) b c)) (some S) = some (.bool (decide ((k : Int) = 0)), some S1) := ev_or_f c1 (ev_cmp (x := .int (k : Nat)) (y := .int 0) (s1 := some S1) h1 ev_k rfl)
      by_cases k0 : k = 0
      · rw [decide_eq_true (show (k : Int) = 0 by omega)] at c2
        exact ⟨true, S1, fun z => absurd z hs, ev_ite_t c2 rfl ev_k⟩
      · rw [decide_eq_false (show ¬ (k : Int) = 0 by omega)] at c2
        exact ⟨false, S1, fun z => absurd z hs, ev_ite_f c2 rfl ev_k⟩
  obtain ⟨num, S1, hnum, e0⟩ := kind
  obtain ⟨o, S2, ho, h2⟩ := sem_given num S1
  have r5 : run (pureL F_20) (.set 5 .f (.call 17 (.src 0 (.cons (.ite (.or_ (.cmp .eq (.nm 1) (.k (.str "sum"))) (.cmp .eq (.call 15 (.src 0 (.cons (.k (.int 2)) .nil))) (.k (.int 0)))) (.k (.str "number")) (.k (.str "text"))) .nil)))) (fp h P (.frz (.int i)) b c) (some S) = some (.nx (fp h P (.frz (.int i)) (.frz (oD o)) c) (some S2)) := by
    refine run_set (md := .f) (i := 5) (ρ := fp h P (.frz (.int i)) b c) (ev_call (as := [.src, .d (.str (kindS num))]) (s1 := some S1) ?_ P_p20_17 rfl h2) rfl (by show 5 < 7; decide)
    rw [eva, show (vw .f (fp h P (.frz (.int i)) b c))[0]? = some .src from rfl]
    simp only [eva_cons e0 eva_nil, Option.map]
  have ho' : OvOk (decide (h = "sum")) o := by
    by_cases hs : h = "sum"
    · rw [hnum hs] at ho
      exact ov_weak ho
    · rw [decide_eq_false hs]
      cases num with
      | true => exact ov_weak ho
      | false => exact ho
  obtain ⟨m, S3, hm, h3⟩ := ev_pick (Φ := pureL F_20) (p := 15) (i := 0) (ρ := vw .f (fp h P (.frz (.int i)) (.frz (oD o)) c)) P_p20_15 (e := .k (.int 3)) (n := 3) (S := S2) (S1 := S2) rfl ev_k (by decide) (by decide)
  have hw : ∃ w : Int, w.natAbs ≤ 1 ∧ dIdx (.list [.int 1, .int 1, .int (-1)]) (.int (m : Nat)) = some (.int w) := by
    match m, hm with
    | 0, _ => exact ⟨1, by decide, rfl⟩
    | 1, _ => exact ⟨1, by decide, rfl⟩
    | 2, _ => exact ⟨-1, by decide, rfl⟩
  obtain ⟨w, hw, hi⟩ := hw
  have e6 : ev (pureL F_20) (.tup (.cons (.nm 5) (.cons (.idx (.lst (.cons (.k (.int 1)) (.cons (.k (.int 1)) (.cons (.op .sub (.k (.int 0)) (.k (.int 1))) .nil)))) (.call 15 (.src 0 (.cons (.k (.int 3)) .nil)))) .nil))) (vw .f (fp h P (.frz (.int i)) (.frz (oD o)) c)) (some S2) = some (pD (o, w), some S3) :=
    ev_tup (xs := [oD o, .int w]) (evs_cons (s1 := some S2) rfl (evs_cons (s1 := some S3) (ev_idx (x := .list [.int 1, .int 1, .int (-1)]) (y := .int (m : Nat)) (s1 := some S2) rfl h3 hi) evs_nil)) (by show 2 ≤ sizeLine; decide)
  have lP : (P.map pD).length < sizeLine := by rw [List.length_map]; exact Nat.lt_of_le_of_lt hl (by decide)
  have r6 := run_app (Φ := pureL F_20) (i := 3) (md := .f) (ρ := fp h P (.frz (.int i)) (.frz (oD o)) c) e6 rfl rfl lP
  have r6' : run (pureL F_20) (.app 3 .f (.tup (.cons (.nm 5) (.cons (.idx (.lst (.cons (.k (.int 1)) (.cons (.k (.int 1)) (.cons (.op .sub (.k (.int 0)) (.k (.int 1))) .nil)))) (.call 15 (.src 0 (.cons (.k (.int 3)) .nil)))) .nil)))) (fp h P (.frz (.int i)) (.frz (oD o)) c) (some S2) = some (.nx (fp h (P ++ [(o, w)]) (.frz (.int i)) (.frz (oD o)) c) (some S3)) := by
    rw [r6]
    show some (Res.nx [.src, .frz (.str h), .frz (.int 9), .own (.list (P.map pD ++ [pD (o, w)])), .frz (.int i), .frz (oD o), c] (some S3)) = some (Res.nx [.src, .frz (.str h), .frz (.int 9), .own (.list ((P ++ [(o, w)]).map pD)), .frz (.int i), .frz (oD o), c] (some S3))
    rw [List.map_append]
    rfl
  have hP1 : POk h (P ++ [(o, w)]) := ⟨fun p hp' => (List.mem_append.mp hp').elim (hp.s p) fun z => by rw [List.mem_singleton.mp z]; exact hw, fun p hp' => (List.mem_append.mp hp').elim (hp.v p) fun z => by rw [List.mem_singleton.mp z]; exact ho'⟩
  have l1 : (P ++ [(o, w)]).length = P.length + 1 := by rw [List.length_append]; rfl
  generalize P ++ [(o, w)] = P1 at hP1 l1 r6'
  obtain ⟨q, S4, hq, h4⟩ := ev_pick (Φ := pureL F_20) (p := 15) (i := 0) (ρ := (fp h P1 (.frz (.int i)) (.frz (oD o)) c).map SS.r) P_p20_15 (e := .k (.int 4)) (n := 4) (S := S3) (S1 := S3) rfl ev_k (by decide) (by decide)
  have c7 : ev (pureL F_20) (.cmp .eq (.call 15 (.src 0 (.cons (.k (.int 4)) .nil))) (.k (.int 0))) ((fp h P1 (.frz (.int i)) (.frz (oD o)) c).map SS.r) (some S3) = some (.bool (decide ((q : Int) = 0)), some S4) := ev_cmp (x := .int (q : Nat)) (y := .int 0) (s1 := some S4) h4 ev_k rfl
  by_cases q0 : q = 0
  · rw [decide_eq_true (show (q : Int) = 0 by omega)] at c7
    have el : ev (pureL F_20) (.b1 .len (.nm 3)) (vw .i (fp h P1 (.frz (.int i)) (.frz (oD o)) c)) (some S4) = some (.int (P1.length : Nat), some S4) := ev_b1 (x := .list (P1.map pD)) (s1 := some S4) rfl (by
      show some (PyData.int ((P1.map pD).length : Nat)) = _
      rw [List.length_map])
    obtain ⟨j, S5, hj, h5⟩ := ev_pick (Φ := pureL F_20) (p := 15) (i := 0) (ρ := vw .i (fp h P1 (.frz (.int i)) (.frz (oD o)) c)) P_p20_15 (n := P1.length) (S := S4) (S1 := S4) rfl el (by omega) (by omega)
    have hmem : P1[j] ∈ P1 := List.getElem_mem hj
    have ei : ev (pureL F_20) (.idx (.nm 3) (.call 15 (.src 0 (.cons (.b1 .len (.nm 3)) .nil)))) (vw .i (fp h P1 (.frz (.int i)) (.frz (oD o)) c)) (some S4) = some (pD P1[j], some S5) := ev_idx (x := .list (P1.map pD)) (y := .int (j : Nat)) (s1 := some S4) rfl h5 (by
      show L2.atI (P1.map pD) (j : Int) = _
      rw [atI_nat, List.getElem?_map, List.getElem?_eq_getElem hj]
      rfl)
    have ru := run_unp2i (Φ := pureL F_20) (i := 5) (j := 6) (ρ := fp h P1 (.frz (.int i)) (.frz (oD o)) c) ei (p_imm _) (by show 5 < 7; decide) (by show 6 < 7; decide)
    have s1 := hP1.s _ hmem
    have v1 := hP1.v _ hmem
    generalize P1[j] = p at ru s1 v1 ei
    have lP1 : (P1.map pD).length < sizeLine := by rw [List.length_map]; exact Nat.lt_of_le_of_lt (show P1.length ≤ 101 by omega) (by decide)
    have ra := run_app (Φ := pureL F_20) (i := 3) (md := .f) (e := .tup (.cons (.nm 5) (.cons (.op .sub (.k (.int 0)) (.nm 6)) .nil))) (ρ := fp h P1 (.frz (.int i)) (.frz (oD p.1)) (.frz (.int p.2))) (s := some S5) (s1 := some S5) (d := pD (p.1, 0 - p.2)) (xs := P1.map pD) (ev_tup (xs := [oD p.1, .int (0 - p.2)]) (evs_cons (s1 := some S5) rfl (evs_cons (s1 := some S5) (ev_op (x := .int 0) (y := .int p.2) (s1 := some S5) ev_k rfl rfl) evs_nil)) (by show 2 ≤ sizeLine; decide)) rfl rfl lP1
    refine ⟨P1 ++ [(p.1, 0 - p.2)], .frz (oD p.1), .frz (.int p.2), S5, ⟨fun x hx => (List.mem_append.mp hx).elim (hP1.s x) fun z => by rw [List.mem_singleton.mp z]; show (0 - p.2).natAbs ≤ 1; omega, fun x hx => (List.mem_append.mp hx).elim (hP1.v x) fun z => by rw [List.mem_singleton.mp z]; exact v1⟩, by rw [List.length_append]; show _ + 1 ≤ _; omega, ?_⟩
    refine runs_nx _ _ r5 (runs_nx _ _ r6' (runs_nx _ _ (run_t c7 rfl (runs_nx _ _ ru (runs_nx _ _ ra runs_nil))) ?_))
    show some (Res.nx [.src, .frz (.str h), .frz (.int 9), .own (.list (P1.map pD ++ [pD (p.1, 0 - p.2)])), .frz (.int i), .frz (oD p.1), .frz (.int p.2)] (some S5)) = _
    rw [show P1.map pD ++ [pD (p.1, 0 - p.2)] = (P1 ++ [(p.1, 0 - p.2)]).map pD by rw [List.map_append]; rfl]
  · rw [decide_eq_false (show ¬ (q : Int) = 0 by omega)] at c7
    exact ⟨P1, .frz (oD o), c, S4, hP1, by omega, runs_nx _ _ r5 (runs_nx _ _ r6' (runs_nx _ _ (run_skip c7) runs_nil))⟩
theorem sem_w_draw_pairs (h : Str) (S : Src) : ∃ (P : Pp) (S' : Src), POk h P ∧ P.length ≤ 18 ∧ E_w_draw_pairs.sem [.src, .d (.str h), .d (.int 9)] (some S) = some (.list (P.map pD), some S') := by
  rw [show E_w_draw_pairs.sem = semOf (pureL F_20) false 7 M_w_draw_pairs from rfl]
  obtain ⟨n, S1, hn, h1⟩ := ev_pick (Φ := pureL F_20) (p := 15) (i := 0) (ρ := (fp h [] .un .un .un).map SS.f) P_p20_15 (e := .op .add (.nm 2) (.k (.int 1))) (n := 10) (S := S) (S1 := S) rfl (ev_op (x := .int 9) (y := .int 1) (s1 := some S) rfl ev_k rfl) (by decide) (by decide)
  obtain ⟨ρ', s', h2, P, a, b, c, S2, hρ, hs, hP, hl⟩ := forRun_ind (f := runs (pureL F_20) M_w_draw_pairs_1) (t := .nm 4) (fun k ρ s => ∃ (P : Pp) (a b c : SS) (S' : Src), ρ = fp h P a b c ∧ s = some S' ∧ POk h P ∧ P.length ≤ 2 * k) ((List.range' 0 n).map fun i => PyData.int (i : Nat)) 0 (ρ := fp h [] .un .un .un) (s := some S1) ⟨[], .un, .un, .un, S1, rfl, rfl, ⟨nofun, nofun⟩, Nat.zero_le _⟩ (fun i x ρ s hx ⟨P, a, b, c, S', hρ, hs, hP, hl⟩ => by
    subst hρ hs
    have hi : i < n := by
      have := (List.getElem?_eq_some_iff.mp hx).1
      simpa using this
    obtain ⟨j, rfl⟩ : ∃ j : Int, x = .int j := by
      have := List.mem_of_getElem? hx
      obtain ⟨q, _, rfl⟩ := List.mem_map.mp this
      exact ⟨_, rfl⟩
    obtain ⟨P', b', c', S2, h1, h2, h3⟩ := pair_turn hP (by omega) j b c S'
    exact ⟨fp h P (.frz (.int j)) b c, _, _, rfl, .inl h3, P', _, b', c', S2, rfl, rfl, h1, by omega⟩)
  subst hρ hs
  have hn' : ((List.range' 0 n).map fun i => PyData.int (i : Nat)).length = n := by simp
  rw [hn'] at hl
  refine ⟨P, S2, hP, by omega, sem_rt [.src, .frz (.str h), .frz (.int 9), .un, .un, .un, .un] rfl (runs_nx (fp h [] .un .un .un) (some S) rfl (runs_nx _ _ (run_for (evi_range h1 (by omega)) h2) (runs_rt (run_ret rfl))))⟩
end Os
end
section
set_option linter.all false
set_option maxRecDepth 100000
set_option maxHeartbeats 4000000
/-! N11g: near values: printed by mkN11g.py. -/
namespace Os
open PySem PySem.Spec PyProof.Rows L2 PySem.W
theorem Tq.big {k n : Nat} {i : Int} (h : i.natAbs ≤ 10 ^ 40) : Tq k n (.int i) := by
  have h1 : i.natAbs < 10 ^ 41 := Nat.lt_of_le_of_lt h (by decide +kernel)
  refine ⟨?_, Nat.zero_le _, Nat.zero_le _, ?_, ?_⟩
  · show decide (i.natAbs.log2 < 1920) = true
    refine decide_eq_true ?_
    by_cases h0 : i.natAbs = 0
    · rw [h0]
      decide
    · have : i.natAbs < 2 ^ 140 := Nat.lt_trans h1 (by decide +kernel)
      have := (Nat.log2_lt h0).mpr this
      omega
  · show decide ((PyData.shown (.int i)).length ≤ 80) = true
    refine decide_eq_true ?_
    have e := int_text_length_le10 (k := 41) (by decide) h1
    show (Str.ofString (toString i)).length ≤ 80
    rw [PySem.ofString_length]
    exact Nat.le_trans e (by decide)
  · show decide (i.natAbs ≤ 10 ^ 64) = true
    exact decide_eq_true (Nat.le_trans h (by decide +kernel))
def OvAll (P : Pp) : Prop := (∀ p ∈ P, p.2.natAbs ≤ 1) ∧ ∀ p ∈ P, OvOk false p.1
theorem POk.all {h : Str} {P : Pp} (k : POk h P) : OvAll P := ⟨k.s, fun p hp => by
  have := k.v p hp
  cases hb : decide (h = "sum") with
  | true =>
    rw [hb] at this
    exact ov_weak this
  | false =>
    rw [hb] at this
    exact this⟩
theorem sumS_abs : ∀ {P : Pp}, (∀ p ∈ P, p.2.natAbs ≤ 1) → (sumS P).natAbs ≤ P.length
  | [], _ => Nat.le_refl _
  | p :: P, h => by
    have h1 := sumS_abs (P := P) fun q hq => h q (List.mem_cons_of_mem _ hq)
    have h2 := h p List.mem_cons_self
    rw [sumS]
    simp only [List.length_cons]
    omega
theorem gv_abs {o : Option Gv} (h : OvOk false o) : (gvI o).natAbs ≤ 10 ^ 20 := by
  cases o with
  | none => exact Nat.zero_le _
  | some g =>
    cases g with
    | i n => exact h
    | s x => exact Nat.zero_le _
theorem sumV_abs : ∀ {P : Pp}, OvAll P → (sumV P).natAbs ≤ P.length * 10 ^ 20
  | [], _ => Nat.zero_le _
  | p :: P, h => by
    have h1 := sumV_abs (P := P) ⟨fun q hq => h.1 q (List.mem_cons_of_mem _ hq), fun q hq => h.2 q (List.mem_cons_of_mem _ hq)⟩
    have h2 := h.1 p List.mem_cons_self
    have h3 := gv_abs (h.2 p List.mem_cons_self)
    have h4 : (p.2 * gvI p.1).natAbs ≤ 10 ^ 20 := by
      rw [Int.natAbs_mul]
      exact Nat.le_trans (Nat.mul_le_mul h2 h3) (by decide)
    rw [sumV]
    simp only [List.length_cons, Nat.add_mul, Nat.one_mul]
    omega
theorem net_abs : ∀ {P : Pp}, (∀ p ∈ P, p.2.natAbs ≤ 1) → ∀ g, (net (someP P) g).natAbs ≤ P.length
  | [], _, g => Nat.le_refl _
  | (none, n) :: P, h, g => by
    have h1 := net_abs (P := P) (fun q hq => h q (List.mem_cons_of_mem _ hq)) g
    show (net (someP P) g).natAbs ≤ _
    simp only [List.length_cons]
    omega
  | (some x, n) :: P, h, g => by
    have h1 := net_abs (P := P) (fun q hq => h q (List.mem_cons_of_mem _ hq)) g
    have h2 : n.natAbs ≤ 1 := h _ List.mem_cons_self
    show ((if x = g then n else 0) + net (someP P) g).natAbs ≤ _
    simp only [List.length_cons]
    split <;> omega
theorem some_mem : ∀ {P : Pp} {g : Gv}, g ∈ (someP P).map (·.1) → ∃ p ∈ P, p.1 = some g
  | [], g, h => by simp [someP] at h
  | (none, n) :: P, g, h => by
    obtain ⟨p, hp, e⟩ := some_mem (P := P) (g := g) h
    exact ⟨p, List.mem_cons_of_mem _ hp, e⟩
  | (some x, n) :: P, g, h => by
    have h : g ∈ x :: (someP P).map (·.1) := h
    rcases List.mem_cons.mp h with rfl | h
    · exact ⟨_, List.mem_cons_self, rfl⟩
    · obtain ⟨p, hp, e⟩ := some_mem (P := P) (g := g) h
      exact ⟨p, List.mem_cons_of_mem _ hp, e⟩
theorem tyP_mem {P : Pp} {t : Cn} (h : Ty (net (someP P)) t) : ∀ p ∈ t, p.1 ∈ (someP P).map (·.1) ∧ p.2 = net (someP P) p.1 := fun p hp => by
  obtain ⟨ks, hs, rfl⟩ := h
  unfold canK keysOfF at hp
  obtain ⟨g, hg, rfl⟩ := List.mem_map.mp hp
  exact ⟨net_sup _ _ (of_decide_eq_true (List.mem_filter.mp hg).2), rfl⟩
/-- a told pair, small -/
structure Ew (x : D) : Prop where
  q : Tq 1 26 x
  g : ∀ ys, x = .tuple ys → ∀ y ∈ ys, Gd y
theorem ew_pr {g : Gv} {n : Int} (hg : OvOk false (some g)) (hn : n.natAbs ≤ 10 ^ 20) : Ew (prI (g, n)) := by
  have hn' : Tq 0 12 (.int n) := Tq.big (Nat.le_trans hn (by decide +kernel))
  have hg' : Tq 0 12 g.D ∧ Gd g.D := by
    cases g with
    | i m => exact ⟨Tq.big (Nat.le_trans hg (by decide +kernel)), trivial⟩
    | s x => exact ⟨Tq.str hg.2.1 hg.2.2 (Nat.le_trans hg.2.2 (by decide)), hg.2.1, Nat.le_trans hg.2.2 (by decide)⟩
  refine ⟨Tq.tup (m := 12) (fun x hx => ?_) (by show 2 * 13 ≤ 26; decide) (by show 2 ≤ 1000; decide), fun ys e y hy => ?_⟩
  · simp only [List.mem_cons, List.not_mem_nil, or_false] at hx
    rcases hx with rfl | rfl
    · exact hg'.1
    · exact hn'
  · have e : PyData.tuple [g.D, .int n] = .tuple ys := e
    cases e
    simp only [List.mem_cons, List.not_mem_nil, or_false] at hy
    rcases hy with rfl | rfl
    · exact hg'.2
    · trivial
theorem ew_tally {P : Pp} (hP : OvAll P) (hl : P.length ≤ 100) {t : Cn} (h : Ty (net (someP P)) t) : ∀ x ∈ t.map prI, Ew x := fun x hx => by
  obtain ⟨p, hp, rfl⟩ := List.mem_map.mp hx
  obtain ⟨h1, h2⟩ := tyP_mem h p hp
  obtain ⟨q, hq, e⟩ := some_mem h1
  have hv := hP.2 q hq
  rw [e] at hv
  have hn := net_abs hP.1 p.1
  rw [← h2] at hn
  exact ew_pr (g := p.1) (n := p.2) hv (Nat.le_trans hn (Nat.le_trans hl (by decide)))
theorem tyd_tq {h : Str} {P : Pp} {d : D} (hd : TyD h P d) (hP : OvAll P) (hl : P.length ≤ 100) : Tq 2 2700 d := by
  unfold TyD at hd
  split at hd
  · rw [hd]
    exact Tq.big (Nat.le_trans (sumS_abs hP.1) (Nat.le_trans hl (by decide +kernel)))
  · split at hd
    · rw [hd]
      exact Tq.big (Nat.le_trans (sumV_abs hP) (Nat.le_trans (Nat.mul_le_mul_right _ hl) (by decide +kernel)))
    · obtain ⟨t, rfl, ht⟩ := hd
      have lt := ty_len ht
      exact Tq.tup (m := 26) (fun x hx => (ew_tally hP hl ht x hx).q) (by rw [List.length_map]; omega) (by rw [List.length_map]; omega)
theorem tyd_tq2 {h : Str} {P : Pp} {d : D} (hd : TyD h P d) (hP : OvAll P) (hl : P.length ≤ 50) : Tq 2 1500 d := by
  unfold TyD at hd
  split at hd
  · rw [hd]
    exact Tq.big (Nat.le_trans (sumS_abs hP.1) (Nat.le_trans (Nat.le_trans hl (show 50 ≤ 100 by decide)) (by decide +kernel)))
  · split at hd
    · rw [hd]
      exact Tq.big (Nat.le_trans (sumV_abs hP) (Nat.le_trans (Nat.mul_le_mul_right _ (Nat.le_trans hl (show 50 ≤ 100 by decide))) (by decide +kernel)))
    · obtain ⟨t, rfl, ht⟩ := hd
      have lt := ty_len ht
      exact Tq.tup (m := 26) (fun x hx => (ew_tally hP (Nat.le_trans hl (show 50 ≤ 100 by decide)) ht x hx).q) (by rw [List.length_map]; omega) (by rw [List.length_map]; omega)
/-- a near value -/
structure Nw (v : D) : Prop where
  r : ∃ z, dRepr v = some (.str z)
  w : ∀ xs, v = .tuple xs → Wv xs
theorem nw_tup {xs : List D} (h : ∀ x ∈ xs, Ew x) (hl : xs.length ≤ 201) : Nw (.tuple xs) := ⟨(Tq.tup (k := 1) (m := 26) (n := 6000) (fun x hx => (h x hx).q) (by omega) (by omega)).repr (by decide) (by decide), fun ys e => by
  cases e
  exact ⟨by omega, fun x hx => (h x hx).g⟩⟩
theorem nw_lst {xs : List D} (h : ∀ x ∈ xs, Ew x) (hl : xs.length ≤ 201) : Nw (.list xs) := ⟨(Tq.list (k := 1) (m := 26) (n := 6000) (fun x hx => (h x hx).q) (by omega) (by omega)).repr (by decide) (by decide), nofun⟩
theorem nw_tyd {h : Str} {P : Pp} {d : D} (hd : TyD h P d) (hP : OvAll P) (hl : P.length ≤ 100) : Nw d := ⟨(tyd_tq hd hP hl).repr (by decide) (by decide), fun xs e => by
  subst e
  unfold TyD at hd
  split at hd
  · cases hd
  · split at hd
    · cases hd
    · obtain ⟨t, e, ht⟩ := hd
      cases e
      have lt := ty_len ht
      exact ⟨by rw [List.length_map]; omega, fun x hx => (ew_tally hP hl ht x hx).g⟩⟩
def gdB : D → Bool
  | .str z => PyData.strOk z && decide (z.length ≤ 100)
  | _ => true
theorem gdB_ok {d : D} (h : gdB d = true) : Gd d := by
  cases d with
  | str z =>
    rw [gdB, Bool.and_eq_true] at h
    exact ⟨h.1, of_decide_eq_true h.2⟩
  | _ => trivial
def nwB (v : D) : Bool := (match dRepr v with
    | some (.str _) => true
    | _ => false) && (match v with
    | .tuple xs => decide (xs.length ≤ 1000) && xs.all fun x => match x with
      | .tuple ys => ys.all gdB
      | _ => true
    | _ => true)
theorem nwB_ok {v : D} (h : nwB v = true) : Nw v := by
  unfold nwB at h
  rw [Bool.and_eq_true] at h
  obtain ⟨h1, h2⟩ := h
  refine ⟨?_, fun xs e => ?_⟩
  · split at h1
    · exact ⟨_, by assumption⟩
    · cases h1
  · subst e
    have h2 : (decide (xs.length ≤ 1000) && xs.all fun x => match x with
      | .tuple ys => ys.all gdB
      | _ => true) = true := h2
    rw [Bool.and_eq_true] at h2
    refine ⟨of_decide_eq_true h2.1, fun x hx ys e y hy => ?_⟩
    have := List.all_eq_true.mp h2.2 x hx
    subst e
    exact gdB_ok (List.all_eq_true.mp this y hy)
def oddT : List D := [.none, .bool true, .int 0, .int 5, .int 1000000000000000000000000000000, .str "", .str "a", .tuple [], .list [], .dict [], .tuple [.tuple [.int 1, .int 1]], .tuple [.tuple [.int 1, .int 0]], .tuple [.tuple [.int 1, .bool true]], .tuple [.tuple [.none, .int 1]], .tuple [.tuple [.bool true, .int 1]], .tuple [.tuple [.int 1, .int 1], .tuple [.int 1, .int 1]], .tuple [.tuple [.int 1, .int 1], .tuple [.int 1, .int 2]], .tuple [.tuple [.int 2, .int 1], .tuple [.int 1, .int 1]], .tuple [.tuple [.str "a", .int 1], .tuple [.int 1, .int 1]], .tuple [.tuple [.int 1, .int 1, .int 1]], .tuple [.list [.int 1, .int 1]], .tuple [.int 1, .int 1], .tuple [.tuple [.str "a.b", .int 1]], .tuple [.tuple [.str "abcdefghijklm", .int 1]], .tuple [.tuple [.int 1, .str "1"]], .tuple [.tuple [.tuple [.int 1], .int 1]], .tuple [.tuple [.int (-5), .int (-2)], .tuple [.str "", .int 3]], .tuple [.tuple [.list [.int 1], .int 1]], .tuple [.tuple [.dict [], .int 1], .tuple [.int 1, .int 1]], .tuple [.tuple [.int 1, .int 1], .tuple [.int 2, .int 0]], .tuple [.tuple [.int 1, .int 1], .tuple [.int 2, .bool true]], .tuple [.tuple [.int 1, .int 1], .list [.int 2, .int 1]], .tuple [.tuple [.int 1, .int 1], .tuple [.str "b", .str "1"]]]
theorem odd_all : oddT.all nwB = true := by decide +kernel
theorem odd_nw {v : D} (h : v ∈ oddT) : Nw v := nwB_ok (List.all_eq_true.mp odd_all v h)

theorem wn_0 (d : D) (s : S1) : run (pureL F_23) (.set 2 .f (.lst (.cons (.k .none) (.cons (.k (.bool true)) (.cons (.k (.int 0)) (.cons (.k (.int 5)) (.cons (.op .pow (.k (.int 10)) (.k (.int 30))) (.cons (.k (.str "")) (.cons (.k (.str "a")) (.cons (.tup .nil) (.cons (.lst .nil) (.cons .dict0 (.cons (.tup (.cons (.tup (.cons (.k (.int 1)) (.cons (.k (.int 1)) .nil))) .nil)) (.cons (.tup (.cons (.tup (.cons (.k (.int 1)) (.cons (.k (.int 0)) .nil))) .nil)) (.cons (.tup (.cons (.tup (.cons (.k (.int 1)) (.cons (.k (.bool true)) .nil))) .nil)) .nil))))))))))))))) [.src, .frz d, .un, .un] s = some (.nx [.src, .frz d, .frz (.list (oddT.take 13)), .un] s) := by kernel_rfl
theorem wn_1 (d : D) (s : S1) : run (pureL F_23) (.set 2 .f (.op .add (.nm 2) (.lst (.cons (.tup (.cons (.tup (.cons (.k .none) (.cons (.k (.int 1)) .nil))) .nil)) (.cons (.tup (.cons (.tup (.cons (.k (.bool true)) (.cons (.k (.int 1)) .nil))) .nil)) (.cons (.tup (.cons (.tup (.cons (.k (.int 1)) (.cons (.k (.int 1)) .nil))) (.cons (.tup (.cons (.k (.int 1)) (.cons (.k (.int 1)) .nil))) .nil))) (.cons (.tup (.cons (.tup (.cons (.k (.int 1)) (.cons (.k (.int 1)) .nil))) (.cons (.tup (.cons (.k (.int 1)) (.cons (.k (.int 2)) .nil))) .nil))) (.cons (.tup (.cons (.tup (.cons (.k (.int 2)) (.cons (.k (.int 1)) .nil))) (.cons (.tup (.cons (.k (.int 1)) (.cons (.k (.int 1)) .nil))) .nil))) .nil)))))))) [.src, .frz d, .frz (.list (oddT.take 13)), .un] s = some (.nx [.src, .frz d, .frz (.list (oddT.take 18)), .un] s) := by kernel_rfl
theorem wn_2 (d : D) (s : S1) : run (pureL F_23) (.set 2 .f (.op .add (.nm 2) (.lst (.cons (.tup (.cons (.tup (.cons (.k (.str "a")) (.cons (.k (.int 1)) .nil))) (.cons (.tup (.cons (.k (.int 1)) (.cons (.k (.int 1)) .nil))) .nil))) (.cons (.tup (.cons (.tup (.cons (.k (.int 1)) (.cons (.k (.int 1)) (.cons (.k (.int 1)) .nil)))) .nil)) (.cons (.tup (.cons (.lst (.cons (.k (.int 1)) (.cons (.k (.int 1)) .nil))) .nil)) (.cons (.tup (.cons (.k (.int 1)) (.cons (.k (.int 1)) .nil))) (.cons (.tup (.cons (.tup (.cons (.k (.str "a.b")) (.cons (.k (.int 1)) .nil))) .nil)) .nil)))))))) [.src, .frz d, .frz (.list (oddT.take 18)), .un] s = some (.nx [.src, .frz d, .frz (.list (oddT.take 23)), .un] s) := by kernel_rfl
theorem wn_3 (d : D) (s : S1) : run (pureL F_23) (.set 2 .f (.op .add (.nm 2) (.lst (.cons (.tup (.cons (.tup (.cons (.k (.str "abcdefghijklm")) (.cons (.k (.int 1)) .nil))) .nil)) (.cons (.tup (.cons (.tup (.cons (.k (.int 1)) (.cons (.k (.str "1")) .nil))) .nil)) (.cons (.tup (.cons (.tup (.cons (.tup (.cons (.k (.int 1)) .nil)) (.cons (.k (.int 1)) .nil))) .nil)) (.cons (.tup (.cons (.tup (.cons (.op .sub (.k (.int 0)) (.k (.int 5))) (.cons (.op .sub (.k (.int 0)) (.k (.int 2))) .nil))) (.cons (.tup (.cons (.k (.str "")) (.cons (.k (.int 3)) .nil))) .nil))) .nil))))))) [.src, .frz d, .frz (.list (oddT.take 23)), .un] s = some (.nx [.src, .frz d, .frz (.list (oddT.take 27)), .un] s) := by kernel_rfl
theorem wn_4 (d : D) (s : S1) : run (pureL F_23) (.set 2 .o (.catL (.nm 2) (.lst (.cons (.tup (.cons (.tup (.cons (.lst (.cons (.k (.int 1)) .nil)) (.cons (.k (.int 1)) .nil))) .nil)) (.cons (.tup (.cons (.tup (.cons .dict0 (.cons (.k (.int 1)) .nil))) (.cons (.tup (.cons (.k (.int 1)) (.cons (.k (.int 1)) .nil))) .nil))) (.cons (.tup (.cons (.tup (.cons (.k (.int 1)) (.cons (.k (.int 1)) .nil))) (.cons (.tup (.cons (.k (.int 2)) (.cons (.k (.int 0)) .nil))) .nil))) (.cons (.tup (.cons (.tup (.cons (.k (.int 1)) (.cons (.k (.int 1)) .nil))) (.cons (.tup (.cons (.k (.int 2)) (.cons (.k (.bool true)) .nil))) .nil))) (.cons (.tup (.cons (.tup (.cons (.k (.int 1)) (.cons (.k (.int 1)) .nil))) (.cons (.lst (.cons (.k (.int 2)) (.cons (.k (.int 1)) .nil))) .nil))) .nil)))))))) [.src, .frz d, .frz (.list (oddT.take 27)), .un] s = some (.nx [.src, .frz d, .own (.list (oddT.take 32)), .un] s) := by kernel_rfl
theorem wn_5 (d : D) (s : S1) : run (pureL F_23) (.app 2 .f (.tup (.cons (.tup (.cons (.k (.int 1)) (.cons (.k (.int 1)) .nil))) (.cons (.tup (.cons (.k (.str "b")) (.cons (.k (.str "1")) .nil))) .nil)))) [.src, .frz d, .own (.list (oddT.take 32)), .un] s = some (.nx [.src, .frz d, .own (.list (oddT.take 33)), .un] s) := by kernel_rfl
theorem wn_6 (d : D) (s : S1) : run (pureL F_23) (.frz 2) [.src, .frz d, .own (.list (oddT.take 33)), .un] s = some (.nx [.src, .frz d, .frz (.list oddT), .un] s) := by kernel_rfl
theorem wn_7 {d : D} (S : Src) : ∃ a b S', a ∈ oddT ∧ b ∈ oddT ∧ run (pureL F_23) (.set 3 .f (.lst (.cons (.nm 1) (.cons (.idx (.nm 2) (.call 15 (.src 0 (.cons (.b1 .len (.nm 2)) .nil)))) (.cons (.idx (.nm 2) (.call 15 (.src 0 (.cons (.b1 .len (.nm 2)) .nil)))) .nil))))) [.src, .frz d, .frz (.list oddT), .un] (some S) = some (.nx [.src, .frz d, .frz (.list oddT), .frz (.list [d, a, b])] (some S')) := by
  obtain ⟨i, S1, hi, h1⟩ := ev_pick (Φ := pureL F_23) (p := 15) (i := 0) (ρ := vw .f [.src, .frz d, .frz (.list oddT), .un]) P_p23_15 (e := .b1 .len (.nm 2)) (n := 33) (S := S) (S1 := S) rfl (ev_b1 (x := .list oddT) (s1 := some S) rfl rfl) (by decide) (by decide)
  obtain ⟨j, S2, hj, h2⟩ := ev_pick (Φ := pureL F_23) (p := 15) (i := 0) (ρ := vw .f [.src, .frz d, .frz (.list oddT), .un]) P_p23_15 (e := .b1 .len (.nm 2)) (n := 33) (S := S1) (S1 := S1) rfl (ev_b1 (x := .list oddT) (s1 := some S1) rfl rfl) (by decide) (by decide)
  have at_ : ∀ {k : Nat} (hk : k < 33), dIdx (.list oddT) (.int (k : Nat)) = some (oddT[k]'hk) := fun {k} hk => by
    show L2.atI oddT (k : Int) = _
    rw [atI_nat, List.getElem?_eq_getElem (show k < oddT.length from hk)]
    rfl
  refine ⟨oddT[i]'hi, oddT[j]'hj, S2, List.getElem_mem _, List.getElem_mem _, run_set (md := .f) (i := 3) (ρ := [.src, .frz d, .frz (.list oddT), .un]) (ev_lst (evs_cons (s1 := some S) rfl (evs_cons (s1 := some S1) (ev_idx (x := .list oddT) (y := .int (i : Nat)) (s1 := some S) rfl h1 (at_ hi)) (evs_cons (s1 := some S2) (ev_idx (x := .list oddT) (y := .int (j : Nat)) (s1 := some S1) rfl h2 (at_ hj)) evs_nil))) (by show 3 ≤ sizeLine; decide)) rfl (by show 3 < 4; decide)⟩
theorem cut_mem2 {xs : List D} {lo hi : Option Int} {x : D} (h : x ∈ cutD xs lo hi) : x ∈ xs := List.mem_of_mem_drop (List.mem_of_mem_take h)
def more (xs : List D) : List D := [.tuple xs.reverse, .list xs, .tuple (xs ++ cutD xs none (some 1)), .tuple (cutD xs (some 1) none), .tuple (xs ++ [.tuple [.none, .int 1]])]
theorem more_nw {xs : List D} (h : ∀ x ∈ xs, Ew x) (hl : xs.length ≤ 100) : ∀ v ∈ more xs, Nw v := fun v hv => by
  have c1 := cut_len xs none (some 1)
  have c2 := cut_len xs (some 1) none
  simp only [more, List.mem_cons, List.not_mem_nil, or_false] at hv
  rcases hv with rfl | rfl | rfl | rfl | rfl
  · exact nw_tup (fun x hx => h x (List.mem_reverse.mp hx)) (by rw [List.length_reverse]; omega)
  · exact nw_lst h (by omega)
  · refine nw_tup (fun x hx => ?_) (by rw [List.length_append]; omega)
    exact (List.mem_append.mp hx).elim (h x) fun z => h x (cut_mem2 z)
  · exact nw_tup (fun x hx => h x (cut_mem2 hx)) (by omega)
  · refine nw_tup (fun x hx => ?_) (by rw [List.length_append]; show _ + 1 ≤ 201; omega)
    refine (List.mem_append.mp hx).elim (h x) fun z => ?_
    rw [List.mem_singleton.mp z]
    exact ⟨⟨by decide +kernel, by decide +kernel, by decide +kernel, by decide +kernel, by decide +kernel⟩, fun ys e y hy => by
      cases e
      simp only [List.mem_cons, List.not_mem_nil, or_false] at hy
      rcases hy with rfl | rfl <;> trivial⟩
theorem sem_w_near {h : Str} {P : Pp} {d : D} (hd : TyD h P d) (hP : OvAll P) (hl : P.length ≤ 100) (S : Src) : ∃ V S', (∀ v ∈ V, Nw v) ∧ E_w_near.sem [.src, .d d] (some S) = some (.list V, some S') := by
  rw [show E_w_near.sem = semOf (pureL F_23) false 4 M_w_near from rfl]
  obtain ⟨a, b, S1, ha, hb, r7⟩ := wn_7 (d := d) S
  have nd := nw_tyd hd hP hl
  have n3 : ∀ v ∈ [d, a, b], Nw v := fun v hv => by
    simp only [List.mem_cons, List.not_mem_nil, or_false] at hv
    rcases hv with rfl | rfl | rfl
    · exact nd
    · exact odd_nw ha
    · exact odd_nw hb
  have top : ∀ {R : Option Res}, runs (pureL F_23) (.cons (.ite (.isi (.nm 1) .tuple) (.cons (.set 3 .f (.op .add (.nm 3) (.lst (.cons (.revl (.nm 1)) (.cons (.b1 .list (.nm 1)) (.cons (.op .add (.nm 1) (.slc (.nm 1) .no (.yes (.k (.int 1))))) (.cons (.slc (.nm 1) (.yes (.k (.int 1))) .no) (.cons (.op .add (.nm 1) (.tup (.cons (.tup (.cons (.k .none) (.cons (.k (.int 1)) .nil))) .nil))) .nil)))))))) .nil) .nil) (.cons (.ret (.nm 3)) .nil)) [.src, .frz d, .frz (.list oddT), .frz (.list [d, a, b])] (some S1) = R → runs (pureL F_23) M_w_near [.src, .frz d, .un, .un] (some S) = R := fun h =>
    runs_nx _ _ (wn_0 d _) (runs_nx _ _ (wn_1 d _) (runs_nx _ _ (wn_2 d _) (runs_nx _ _ (wn_3 d _) (runs_nx _ _ (wn_4 d _) (runs_nx _ _ (wn_5 d _) (runs_nx _ _ (wn_6 d _) (runs_nx _ _ r7 h)))))))
  have no : isTy .tuple d = false → ∃ V S', (∀ v ∈ V, Nw v) ∧ semOf (pureL F_23) false 4 M_w_near [.src, .d d] (some S) = some (.list V, some S') := fun ht => by
    have c : ev (pureL F_23) (.isi (.nm 1) .tuple) ([.src, .frz d, .frz (.list oddT), .frz (.list [d, a, b])].map SS.r) (some S1) = some (.bool false, some S1) := by
      rw [← ht]
      exact ev_isi rfl
    exact ⟨[d, a, b], S1, n3, sem_rt [.src, .frz d, .un, .un] rfl (top (runs_nx _ _ (run_skip c) (runs_rt (run_ret rfl))))⟩
  by_cases ht : isTy .tuple d = false
  · exact no ht
  obtain ⟨xs, rfl⟩ : ∃ xs, d = .tuple xs := by
    cases d with
    | tuple xs => exact ⟨xs, rfl⟩
    | _ => exact absurd rfl ht
  have hx : (∀ x ∈ xs, Ew x) ∧ xs.length ≤ 100 := by
    unfold TyD at hd
    split at hd
    · cases hd
    · split at hd
      · cases hd
      · obtain ⟨t, e, ht'⟩ := hd
        cases e
        have := ty_len ht'
        exact ⟨ew_tally hP hl ht', by rw [List.length_map]; omega⟩
  have c1 := cut_len xs none (some 1)
  have c : ev (pureL F_23) (.isi (.nm 1) .tuple) ([.src, .frz (.tuple xs), .frz (.list oddT), .frz (.list [.tuple xs, a, b])].map SS.r) (some S1) = some (.bool true, some S1) := rfl
  have e8 : ev (pureL F_23) (.lst (.cons (.revl (.nm 1)) (.cons (.b1 .list (.nm 1)) (.cons (.op .add (.nm 1) (.slc (.nm 1) .no (.yes (.k (.int 1))))) (.cons (.slc (.nm 1) (.yes (.k (.int 1))) .no) (.cons (.op .add (.nm 1) (.tup (.cons (.tup (.cons (.k .none) (.cons (.k (.int 1)) .nil))) .nil))) .nil)))))) (vw .f [.src, .frz (.tuple xs), .frz (.list oddT), .frz (.list [.tuple xs, a, b])]) (some S1) = some (.list (more xs), some S1) := by
    refine ev_lst (evs_cons (s1 := some S1) ?_ (evs_cons (s1 := some S1) (ev_b1 (x := .tuple xs) (s1 := some S1) rfl rfl) (evs_cons (s1 := some S1) (ev_op (x := .tuple xs) (y := .tuple (cutD xs none (some 1))) (s1 := some S1) rfl (ev_slc_to (x := .tuple xs) (j := 1) (s1 := some S1) rfl ev_k rfl) (add_tup (by omega))) (evs_cons (s1 := some S1) (ev_slc_from (x := .tuple xs) (j := 1) (s1 := some S1) rfl ev_k rfl) (evs_cons (s1 := some S1) (ev_op (x := .tuple xs) (y := .tuple [.tuple [.none, .int 1]]) (s1 := some S1) rfl rfl (add_tup (by show _ + 1 ≤ 1000; omega))) evs_nil))))) (by show 5 ≤ sizeLine; decide)
    rfl
  have r8 := run_set (md := .f) (i := 3) (ρ := [.src, .frz (.tuple xs), .frz (.list oddT), .frz (.list [.tuple xs, a, b])]) (ev_op (o := .add) (Φ := pureL F_23) (a := .nm 3) (x := .list [.tuple xs, a, b]) (y := .list (more xs)) (s := some S1) (s1 := some S1) rfl e8 rfl) rfl (by show 3 < 4; decide)
  refine ⟨[.tuple xs, a, b] ++ more xs, S1, fun v hv => (List.mem_append.mp hv).elim (n3 v) (more_nw hx.1 hx.2 v), sem_rt [.src, .frz (.tuple xs), .un, .un] rfl (top (runs_nx _ _ (run_t c rfl (runs_nx _ _ r8 runs_nil)) (runs_rt (run_ret rfl))))⟩
end Os
end
section
set_option linter.all false
set_option maxRecDepth 100000
set_option maxHeartbeats 4000000
/-! N11h: one tally, however it comes; the law. -/
namespace Os
open PySem PySem.Spec PyProof.Rows L2 PySem.W
section
variable {A B P Q : Pp} {k : Nat}
theorem same_1 (e : A ++ B = P) : Same (A ++ sc 1 B) P := by
  subst e
  exact ⟨by simp only [sumS_app, sumS_sc]; omega, by simp only [sumV_app, sumV_sc]; omega, fun g => by simp only [someP_app, net_app, net_sc]; omega⟩
theorem same_2 (e : A ++ B = P) : Same (B ++ sc 1 A) P := by
  subst e
  exact ⟨by simp only [sumS_app, sumS_sc]; omega, by simp only [sumV_app, sumV_sc]; omega, fun g => by simp only [someP_app, net_app, net_sc]; omega⟩
theorem same_3 : Same (P ++ sc 1 []) P := ⟨by simp only [sumS_app, sumS_sc, sumS]; omega, by simp only [sumV_app, sumV_sc, sumV]; omega, fun g => by simp only [someP_app, net_app, net_sc, someP, net]; omega⟩
theorem same_4 : Same ((P ++ sc 1 A) ++ sc (-1) A) P := ⟨by simp only [sumS_app, sumS_sc]; omega, by simp only [sumV_app, sumV_sc]; omega, fun g => by simp only [someP_app, net_app, net_sc]; omega⟩
theorem same_5 (e : A ++ B = P) : Same (P ++ sc (-1) A) B := by
  subst e
  exact ⟨by simp only [sumS_app, sumS_sc]; omega, by simp only [sumV_app, sumV_sc]; omega, fun g => by simp only [someP_app, net_app, net_sc]; omega⟩
theorem same_6 (e : Q.Perm P) : Same (P ++ sc (-1) Q) [] := by
  have h := Same.perm e
  have h1 := h.s
  have h2 := h.v
  exact ⟨by simp only [sumS_app, sumS_sc, sumS]; omega, by simp only [sumV_app, sumV_sc, sumV]; omega, fun g => by
    have h3 := h.n g
    simp only [someP_app, net_app, net_sc, someP, net]
    omega⟩
theorem Num.sub {h : Str} (n : Num h P) (e : ∀ p ∈ Q, p ∈ P) : Num h Q := fun z p hp => n z p (e p hp)
theorem POk.sub {h : Str} (n : POk h P) (e : ∀ p ∈ Q, p ∈ P) : POk h Q := ⟨fun p hp => n.s p (e p hp), fun p hp => n.v p (e p hp)⟩
theorem Num.neg {h : Str} (n : Num h P) : Num h (sc (-1) P) := fun z p hp => by
  obtain ⟨q, hq, rfl⟩ := List.mem_map.mp hp
  exact n z q hq
theorem neg_s (n : ∀ p ∈ P, p.2.natAbs ≤ 1) : ∀ p ∈ sc (-1) P, p.2.natAbs ≤ 1 := fun p hp => by
  obtain ⟨q, hq, rfl⟩ := List.mem_map.mp hp
  have := n q hq
  show (-1 * q.2).natAbs ≤ 1
  omega
end
theorem pp_tq {P : Pp} (hP : OvAll P) (hl : P.length ≤ 100) : Tq 2 2700 (.list (P.map pD)) := Tq.list (m := 26) (fun x hx => by
  obtain ⟨p, hp, rfl⟩ := List.mem_map.mp hx
  refine Tq.tup (m := 12) (fun y hy => ?_) (by show 2 * 13 ≤ 26; decide) (by show 2 ≤ 1000; decide)
  simp only [List.mem_cons, List.not_mem_nil, or_false] at hy
  rcases hy with rfl | rfl
  · have := hP.2 p hp
    obtain ⟨o, n⟩ := p
    cases o with
    | none => exact Tq.none
    | some g =>
      cases g with
      | i m => exact Tq.big (Nat.le_trans this (by decide +kernel))
      | s x => exact Tq.str this.2.1 this.2.2 (Nat.le_trans this.2.2 (by decide))
  · exact Tq.big (Nat.le_trans (hP.1 p hp) (by decide +kernel))) (by rw [List.length_map]; omega) (by rw [List.length_map]; omega)
theorem ty_gok {h : Str} {P : Pp} {d : D} (hP : OvAll P) : ∀ t, d = .tuple (t.map prI) → Ty (net (someP P)) t → ∀ p ∈ t, GvOk p.1 := fun t _ ht p hp => by
  obtain ⟨h1, h2⟩ := tyP_mem ht p hp
  obtain ⟨q, hq, e⟩ := some_mem h1
  have hv := hP.2 q hq
  rw [e] at hv
  revert hv
  cases p.1 with
  | i m => exact fun hv => Nat.le_trans hv (by decide +kernel)
  | s x => exact fun hv => hv.2
theorem gok_repr {g : Gv} (h : GvOk g) : ∃ z, dRepr g.D = some (.str z) := by
  cases g with
  | i m => exact (Tq.big (k := 0) (n := 12) h).repr (by decide) (by decide)
  | s x => exact (Tq.str (k := 0) (n := 12) h.1 h.2 (Nat.le_trans h.2 (by decide))).repr (by decide) (by decide)
abbrev fm (h : Str) (P : Pp) (x3 x4 x5 x6 x7 x8 x9 x10 x11 x12 x13 x14 : SS) : LSS := [.src, .frz (.str h), .frz (.list (P.map pD)), x3, x4, x5, x6, x7, x8, x9, x10, x11, x12, x13, x14]
section
variable {h : Str} {P : Pp} {x3 x4 x5 x6 x7 x8 x9 x10 x11 x12 x13 x14 : SS}
theorem here_loop (hh : How h) : ∀ (Q A : Pp) (d : D) (x7 x8 : SS) (s : S1), TyD h A d → (∀ p ∈ Q, p.2.natAbs ≤ 1) → Num h Q → A.length + Q.length ≤ 400 → ∃ e y7 y8, TyD h (A ++ Q) e ∧ forRun (runs (pureL F_24) M_w_made_right_2) (.two (.nm 7) (.nm 8)) (Q.map pD) (fm h P x3 x4 x5 (.frz d) x7 x8 x9 x10 x11 x12 x13 x14) s = some (.nx (fm h P x3 x4 x5 (.frz e) y7 y8 x9 x10 x11 x12 x13 x14) s)
  | [], A, d, x7, x8, s, hd, _, _, _ => ⟨d, x7, x8, by rw [List.append_nil]; exact hd, rfl⟩
  | (o, n) :: Q, A, d, x7, x8, s, hd, hs, hn, hl => by
    simp only [List.length_cons] at hl
    obtain ⟨e, h1, h2⟩ := sem_add hh hd o (n := n) (hs _ List.mem_cons_self) (hn.sub fun p hp => by rw [List.mem_singleton.mp hp]; exact List.mem_cons_self) (by omega) s
    obtain ⟨e', y7, y8, h3, h4⟩ := here_loop hh Q (A ++ [(o, n)]) e (.frz (oD o)) (.frz (.int n)) s h2 (fun p hp => hs p (List.mem_cons_of_mem _ hp)) (hn.sub fun p hp => List.mem_cons_of_mem _ hp) (by simp only [List.length_append, List.length_cons, List.length_nil]; omega)
    refine ⟨e', y7, y8, by simpa using h3, ?_⟩
    have r : runs (pureL F_24) M_w_made_right_2 (fm h P x3 x4 x5 (.frz d) (.frz (oD o)) (.frz (.int n)) x9 x10 x11 x12 x13 x14) s = some (.nx (fm h P x3 x4 x5 (.frz e) (.frz (oD o)) (.frz (.int n)) x9 x10 x11 x12 x13 x14) s) :=
      runs_nx _ _ (run_set (md := .f) (i := 6) (ρ := fm h P x3 x4 x5 (.frz d) (.frz (oD o)) (.frz (.int n)) x9 x10 x11 x12 x13 x14) (ev_call (as := [.d (.str h), .d d, .d (oD o), .d (.int n)]) (s1 := s) rfl P_p24_8 rfl h1) rfl (by show 6 < 15; decide)) runs_nil
    rw [List.map_cons, forRun, show bindS (.two (.nm 7) (.nm 8)) (pD (o, n)) (fm h P x3 x4 x5 (.frz d) x7 x8 x9 x10 x11 x12 x13 x14) = some (fm h P x3 x4 x5 (.frz d) (.frz (oD o)) (.frz (.int n)) x9 x10 x11 x12 x13 x14) from rfl, Option.bind_some, r, Option.bind_some]
    exact h4
theorem near_loop (hh : How h) : ∀ (V : List D) (x13 x14 : SS) (s : S1), (∀ v ∈ V, Nw v) → ∃ y13 y14, forRun (runs (pureL F_24) M_w_made_right_1) (.nm 13) V (fm h P x3 x4 x5 x6 x7 x8 x9 x10 x11 x12 x13 x14) s = some (.nx (fm h P x3 x4 x5 x6 x7 x8 x9 x10 x11 x12 y13 y14) s)
  | [], x13, x14, s, _ => ⟨x13, x14, rfl⟩
  | v :: V, x13, x14, s, hv => by
    have nv := hv v List.mem_cons_self
    obtain ⟨z, hz⟩ := nv.r
    obtain ⟨b, e1, e2⟩ := tally_same hh nv.w s
    obtain ⟨y13, y14, h2⟩ := near_loop hh V (.frz v) (.frz (.str z)) s fun y hy => hv y (List.mem_cons_of_mem _ hy)
    refine ⟨y13, y14, ?_⟩
    have r0 : run (pureL F_24) (.set 14 .f (.b1 .repr (.nm 13))) (fm h P x3 x4 x5 x6 x7 x8 x9 x10 x11 x12 (.frz v) x14) s = some (.nx (fm h P x3 x4 x5 x6 x7 x8 x9 x10 x11 x12 (.frz v) (.frz (.str z))) s) := run_set (md := .f) (i := 14) (ρ := fm h P x3 x4 x5 x6 x7 x8 x9 x10 x11 x12 (.frz v) x14) (ev_b1 (x := v) (s1 := s) rfl hz) rfl (by show 14 < 15; decide)
    obtain ⟨y, hy⟩ := (Tq.bool (k := 0) (n := 0) b).repr (by decide) (by decide)
    have c1 : ev (pureL F_24) (.cmp .ne (.b1 .repr (.call 5 (.cons (.nm 1) (.cons (.nm 13) .nil)))) (.b1 .repr (.call 22 (.cons (.nm 1) (.cons (.nm 13) .nil))))) ((fm h P x3 x4 x5 x6 x7 x8 x9 x10 x11 x12 (.frz v) (.frz (.str z))).map SS.r) s = some (.bool false, s) :=
      ne_repr (s1 := s) (ev_call (as := [.d (.str h), .d v]) (s1 := s) rfl P_p24_5 rfl e1) (ev_call (as := [.d (.str h), .d v]) (s1 := s) rfl P_p24_22 rfl e2) hy
    have c2 : ev (pureL F_24) (.cmp .ne (.b1 .repr (.nm 13)) (.nm 14)) ((fm h P x3 x4 x5 x6 x7 x8 x9 x10 x11 x12 (.frz v) (.frz (.str z))).map SS.r) s = some (.bool false, s) := ne_held (d := v) (s1 := s) rfl hz rfl
    rw [forRun, show bindS (.nm 13) v (fm h P x3 x4 x5 x6 x7 x8 x9 x10 x11 x12 x13 x14) = some (fm h P x3 x4 x5 x6 x7 x8 x9 x10 x11 x12 (.frz v) x14) from rfl, Option.bind_some, show runs (pureL F_24) M_w_made_right_1 (fm h P x3 x4 x5 x6 x7 x8 x9 x10 x11 x12 (.frz v) x14) s = some (.nx (fm h P x3 x4 x5 x6 x7 x8 x9 x10 x11 x12 (.frz v) (.frz (.str z))) s) from runs_nx _ _ r0 (runs_nx _ _ (run_skip (ev_or_f c1 c2)) runs_nil), Option.bind_some]
    exact h2
end
theorem sem_w_made_right {h : Str} (hh : How h) (S : Src) : ∃ S', E_w_made_right.sem [.src, .d (.str h)] (some S) = some (.bool true, some S') := by
  rw [show E_w_made_right.sem = semOf (pureL F_24) false 15 M_w_made_right from rfl]
  obtain ⟨P, S1, hp, hl, h0⟩ := sem_w_draw_pairs h S
  have hP := hp.all
  have hn := hp.num
  obtain ⟨d, e1, hd⟩ := sem_w_tally hh hn (by omega) hp.s (some S1)
  obtain ⟨zp, hzp⟩ := (pp_tq hP (by omega)).repr (by decide) (by decide)
  have r0 : run (pureL F_24) (.set 2 .f (.call 20 (.src 0 (.cons (.nm 1) (.cons (.k (.int 9)) .nil))))) [.src, .frz (.str h), .un, .un, .un, .un, .un, .un, .un, .un, .un, .un, .un, .un, .un] (some S) = some (.nx (fm h P .un .un .un .un .un .un .un .un .un .un .un .un) (some S1)) :=
    run_set (md := .f) (i := 2) (ρ := [.src, .frz (.str h), .un, .un, .un, .un, .un, .un, .un, .un, .un, .un, .un, .un, .un]) (ev_call (as := [.src, .d (.str h), .d (.int 9)]) (s1 := some S) rfl P_p24_20 rfl h0) rfl (by show 2 < 15; decide)
  have el : ev (pureL F_24) (.op .add (.b1 .len (.nm 2)) (.k (.int 1))) (vw .f (fm h P .un .un .un .un .un .un .un .un .un .un .un .un)) (some S1) = some (.int ((P.length + 1 : Nat) : Int), some S1) := by
    refine ev_op (x := .int (P.length : Nat)) (y := .int 1) (s1 := some S1) (ev_b1 (x := .list (P.map pD)) (s1 := some S1) rfl ?_) ev_k rfl
    show some (PyData.int ((P.map pD).length : Nat)) = _
    rw [List.length_map]
  obtain ⟨k, S2, hk, h1⟩ := ev_pick (Φ := pureL F_24) (p := 15) (i := 0) (ρ := vw .f (fm h P .un .un .un .un .un .un .un .un .un .un .un .un)) P_p24_15 (S := S1) (S1 := S1) rfl el (by omega) (by omega)
  have r1 : run (pureL F_24) (.par [3, 4, 5] [.f, .f, .f] (.cons (.call 18 (.cons (.nm 1) (.cons (.nm 2) .nil))) (.cons (.call 15 (.src 0 (.cons (.op .add (.b1 .len (.nm 2)) (.k (.int 1))) .nil))) (.cons (.b1 .repr (.nm 2)) .nil)))) (fm h P .un .un .un .un .un .un .un .un .un .un .un .un) (some S1) = some (.nx (fm h P (.frz d) (.frz (.int (k : Nat))) (.frz (.str zp)) .un .un .un .un .un .un .un .un .un) (some S2)) :=
    run_par (evP_cons (evM_of (ev_call (as := [.d (.str h), .d (.list (P.map pD))]) (s1 := some S1) rfl P_p24_18 rfl e1) rfl) (evP_cons (evM_of h1 rfl) (evP_cons (evM_of (ev_b1 (f := .repr) (x := .list (P.map pD)) (s1 := some S2) rfl hzp) rfl) evP_nil))) rfl (by decide) rfl
  obtain ⟨d0, e2, hd0⟩ := sem_empty hh (some S2)
  have r2 : run (pureL F_24) (.set 6 .f (.call 6 (.cons (.nm 1) .nil))) (fm h P (.frz d) (.frz (.int (k : Nat))) (.frz (.str zp)) .un .un .un .un .un .un .un .un .un) (some S2) = some (.nx (fm h P (.frz d) (.frz (.int (k : Nat))) (.frz (.str zp)) (.frz d0) .un .un .un .un .un .un .un .un) (some S2)) :=
    run_set (md := .f) (i := 6) (ρ := fm h P (.frz d) (.frz (.int (k : Nat))) (.frz (.str zp)) .un .un .un .un .un .un .un .un .un) (ev_call (as := [.d (.str h)]) (s1 := some S2) rfl P_p24_6 rfl e2) rfl (by show 6 < 15; decide)
  have lP : (P.map pD).length ≤ sizeLine := by rw [List.length_map]; exact len_ok (by omega)
  have h3 := ev_order (Φ := pureL F_24) (o := 16) (i := 0) (ρ := (fm h P (.frz d) (.frz (.int (k : Nat))) (.frz (.str zp)) (.frz d0) .un .un .un .un .un .un .un .un).map SS.f) P_p24_16 (e := .nm 2) (S := S2) (S1 := S2) (xs := P.map pD) rfl rfl lP
  obtain ⟨Q, pq, hq⟩ := perm_inv (f := pD) (orderS_perm (P.map pD).length (P.map pD) S2 rfl) P rfl
  rw [← hq] at h3
  generalize (orderS (P.map pD).length (P.map pD) S2).2 = S3 at h3
  have lq := pq.length_eq
  obtain ⟨d1, y7, y8, hd1, h4⟩ := here_loop (P := P) (x3 := .frz d) (x4 := .frz (.int (k : Nat))) (x5 := .frz (.str zp)) (x9 := .un) (x10 := .un) (x11 := .un) (x12 := .un) (x13 := .un) (x14 := .un) hh Q [] d0 .un .un (some S3) hd0 (fun p hp' => hp.s p (pq.mem_iff.mp hp')) (hn.sub fun p hp' => pq.mem_iff.mp hp') (by simp only [List.length_nil]; omega)
  have q1 : d1 = d := hd1.uniq hd (Same.perm pq)
  subst q1
  have r3 : run (pureL F_24) (.for_ (.two (.nm 7) (.nm 8)) (.seq (.call 16 (.src 0 (.cons (.nm 2) .nil)))) M_w_made_right_2) (fm h P (.frz d1) (.frz (.int (k : Nat))) (.frz (.str zp)) (.frz d0) .un .un .un .un .un .un .un .un) (some S2) = some (.nx (fm h P (.frz d1) (.frz (.int (k : Nat))) (.frz (.str zp)) (.frz d1) y7 y8 .un .un .un .un .un .un) (some S3)) := run_for (evi_seq h3 rfl) h4
  have eT : P.take k ++ P.drop k = P := List.take_append_drop k P
  have tl : (P.take k).length ≤ P.length := by rw [List.length_take]; omega
  have dl : (P.drop k).length ≤ P.length := by rw [List.length_drop]; omega
  obtain ⟨a, e5, ha⟩ := sem_w_tally hh (P := P.take k) (hn.sub fun p hp' => List.mem_of_mem_take hp') (by omega) (fun p hp' => hp.s p (List.mem_of_mem_take hp')) (some S3)
  obtain ⟨b, e6, hb⟩ := sem_w_tally hh (P := P.drop k) (hn.sub fun p hp' => List.mem_of_mem_drop hp') (by omega) (fun p hp' => hp.s p (List.mem_of_mem_drop hp')) (some S3)
  have s1 : ∀ ρ : LS, ρ[2]? = some (.d (.list (P.map pD))) → ρ[4]? = some (.d (.int (k : Nat))) → ev (pureL F_24) (.slc (.nm 2) .no (.yes (.nm 4))) ρ (some S3) = some (.list ((P.take k).map pD), some S3) := fun ρ g2 g4 => by
    refine ev_slc_to (x := .list (P.map pD)) (j := (k : Nat)) (s1 := some S3) (ev_nm g2) (ev_nm g4) ?_
    rw [slc_to, List.map_take]
  have s2 : ∀ ρ : LS, ρ[2]? = some (.d (.list (P.map pD))) → ρ[4]? = some (.d (.int (k : Nat))) → ev (pureL F_24) (.slc (.nm 2) (.yes (.nm 4)) .no) ρ (some S3) = some (.list ((P.drop k).map pD), some S3) := fun ρ g2 g4 => by
    refine ev_slc_from (x := .list (P.map pD)) (j := (k : Nat)) (s1 := some S3) (ev_nm g2) (ev_nm g4) ?_
    rw [slc_from, List.map_drop]
  have r4 : run (pureL F_24) (.par2 9 10 .f .f (.call 18 (.cons (.nm 1) (.cons (.slc (.nm 2) .no (.yes (.nm 4))) .nil))) (.call 18 (.cons (.nm 1) (.cons (.slc (.nm 2) (.yes (.nm 4)) .no) .nil)))) (fm h P (.frz d1) (.frz (.int (k : Nat))) (.frz (.str zp)) (.frz d1) y7 y8 .un .un .un .un .un .un) (some S3) = some (.nx (fm h P (.frz d1) (.frz (.int (k : Nat))) (.frz (.str zp)) (.frz d1) y7 y8 (.frz a) (.frz b) .un .un .un .un) (some S3)) :=
    run_par2 (evM_of (ev_call (as := [.d (.str h), .d (.list ((P.take k).map pD))]) (s1 := some S3) (eva_cons (ev_nm rfl) (eva_cons (s1 := some S3) (s1 _ rfl rfl) eva_nil)) P_p24_18 rfl e5) rfl) (evM_of (ev_call (as := [.d (.str h), .d (.list ((P.drop k).map pD))]) (s1 := some S3) (eva_cons (ev_nm rfl) (eva_cons (s1 := some S3) (s2 _ rfl rfl) eva_nil)) P_p24_18 rfl e6) rfl) ⟨by show 9 < 15; decide, by show 10 < 15; decide, by decide⟩
  obtain ⟨d0', e7, hd0'⟩ := sem_empty hh (some S3)
  have q0 : d0' = d0 := hd0'.uniq hd0 ⟨rfl, rfl, fun _ => rfl⟩
  subst q0
  obtain ⟨d2, e8, hd2⟩ := sem_add_all hh (.list (P.map pD)) (some S3) P [] d0' rfl hd0 hp.s hn (by simp only [List.length_nil]; omega)
  obtain ⟨d3, e9, hd3⟩ := sem_add_all hh (.tuple ((P.drop k).map pD)) (some S3) (P.drop k) (P.take k) a rfl ha (fun p hp' => hp.s p (List.mem_of_mem_drop hp')) (hn.sub fun p hp' => List.mem_of_mem_drop hp') (by omega)
  obtain ⟨d4, e10, hd4⟩ := sem_both hh ha hb (by omega) (some S3)
  obtain ⟨d5, e11, hd5⟩ := sem_both hh hb ha (by omega) (some S3)
  obtain ⟨d6, e12, hd6⟩ := sem_both hh hd hd0 (by simp only [List.length_nil]; omega) (some S3)
  obtain ⟨d7, e13, hd7⟩ := sem_both hh hd ha (by omega) (some S3)
  obtain ⟨d8, e14, hd8⟩ := sem_less hh hd7 ha (by simp only [List.length_append, sc, List.length_map]; omega) (some S3)
  obtain ⟨d9, e15, hd9⟩ := sem_less hh hd ha (by omega) (some S3)
  have q2 : d2 = d1 := hd2.uniq hd (by rw [List.nil_append]; exact ⟨rfl, rfl, fun _ => rfl⟩)
  have q3 : d3 = d1 := hd3.uniq hd (by rw [eT]; exact ⟨rfl, rfl, fun _ => rfl⟩)
  have q4 : d4 = d1 := hd4.uniq hd (same_1 eT)
  have q5 : d5 = d1 := hd5.uniq hd (same_2 eT)
  have q6 : d6 = d1 := hd6.uniq hd same_3
  have q8 : d8 = d1 := hd8.uniq hd same_4
  have q9 : d9 = b := hd9.uniq hb (same_5 eT)
  subst q2 q9
  rw [q3] at e9
  rw [q4] at e10
  rw [q5] at e11
  rw [q6] at e12
  rw [q8] at e14
  have r5 : run (pureL F_24) (.set 11 .f (.lst (.cons (.nm 6) (.cons (.call 9 (.cons (.nm 1) (.cons (.call 6 (.cons (.nm 1) .nil)) (.cons (.nm 2) .nil)))) (.cons (.call 9 (.cons (.nm 1) (.cons (.nm 9) (.cons (.b1 .tuple (.slc (.nm 2) (.yes (.nm 4)) .no)) .nil)))) (.cons (.call 11 (.cons (.nm 1) (.cons (.nm 9) (.cons (.nm 10) .nil)))) .nil)))))) (fm h P (.frz d2) (.frz (.int (k : Nat))) (.frz (.str zp)) (.frz d2) y7 y8 (.frz a) (.frz d9) .un .un .un .un) (some S3) = some (.nx (fm h P (.frz d2) (.frz (.int (k : Nat))) (.frz (.str zp)) (.frz d2) y7 y8 (.frz a) (.frz d9) (.frz (.list [d2, d2, d2, d2])) .un .un .un) (some S3)) := by
    refine run_set (md := .f) (i := 11) (ρ := fm h P (.frz d2) (.frz (.int (k : Nat))) (.frz (.str zp)) (.frz d2) y7 y8 (.frz a) (.frz d9) .un .un .un .un) (ev_lst (xs := [d2, d2, d2, d2]) (evs_cons (s1 := some S3) rfl (evs_cons (s1 := some S3) ?_ (evs_cons (s1 := some S3) ?_ (evs_cons (s1 := some S3) ?_ evs_nil)))) (by show 4 ≤ sizeLine; decide)) rfl (by show 11 < 15; decide)
    · exact ev_call (as := [.d (.str h), .d d0', .d (.list (P.map pD))]) (s1 := some S3) (eva_cons (ev_nm rfl) (eva_cons (s1 := some S3) (ev_call (as := [.d (.str h)]) (s1 := some S3) rfl P_p24_6 rfl e7) (eva_cons (ev_nm rfl) eva_nil))) P_p24_9 rfl e8
    · exact ev_call (as := [.d (.str h), .d a, .d (.tuple ((P.drop k).map pD))]) (s1 := some S3) (eva_cons (ev_nm rfl) (eva_cons (ev_nm rfl) (eva_cons (s1 := some S3) (ev_b1 (s2 _ rfl rfl) rfl) eva_nil))) P_p24_9 rfl e9
    · exact ev_call (as := [.d (.str h), .d a, .d d9]) (s1 := some S3) rfl P_p24_11 rfl e10
  have e_l : ev (pureL F_24) (.lst (.cons (.call 11 (.cons (.nm 1) (.cons (.nm 10) (.cons (.nm 9) .nil)))) (.cons (.call 11 (.cons (.nm 1) (.cons (.nm 3) (.cons (.call 6 (.cons (.nm 1) .nil)) .nil)))) (.cons (.call 12 (.cons (.nm 1) (.cons (.call 11 (.cons (.nm 1) (.cons (.nm 3) (.cons (.nm 9) .nil)))) (.cons (.nm 9) .nil)))) .nil)))) (vw .f (fm h P (.frz d2) (.frz (.int (k : Nat))) (.frz (.str zp)) (.frz d2) y7 y8 (.frz a) (.frz d9) (.frz (.list [d2, d2, d2, d2])) .un .un .un)) (some S3) = some (.list [d2, d2, d2], some S3) := by
    refine ev_lst (xs := [d2, d2, d2]) (evs_cons (s1 := some S3) ?_ (evs_cons (s1 := some S3) ?_ (evs_cons (s1 := some S3) ?_ evs_nil))) (by show 3 ≤ sizeLine; decide)
    · exact ev_call (as := [.d (.str h), .d d9, .d a]) (s1 := some S3) rfl P_p24_11 rfl e11
    · exact ev_call (as := [.d (.str h), .d d2, .d d0']) (s1 := some S3) (eva_cons (ev_nm rfl) (eva_cons (ev_nm rfl) (eva_cons (s1 := some S3) (ev_call (as := [.d (.str h)]) (s1 := some S3) rfl P_p24_6 rfl e7) eva_nil))) P_p24_11 rfl e12
    · exact ev_call (as := [.d (.str h), .d d7, .d a]) (s1 := some S3) (eva_cons (ev_nm rfl) (eva_cons (s1 := some S3) (ev_call (as := [.d (.str h), .d d2, .d a]) (s1 := some S3) rfl P_p24_11 rfl e13) (eva_cons (ev_nm rfl) eva_nil))) P_p24_12 rfl e14
  have r6 := run_set (md := .f) (i := 11) (ρ := fm h P (.frz d2) (.frz (.int (k : Nat))) (.frz (.str zp)) (.frz d2) y7 y8 (.frz a) (.frz d9) (.frz (.list [d2, d2, d2, d2])) .un .un .un) (ev_op (o := .add) (Φ := pureL F_24) (a := .nm 11) (x := .list [d2, d2, d2, d2]) (y := .list [d2, d2, d2]) (s := some S3) (s1 := some S3) rfl e_l rfl) rfl (by show 11 < 15; decide)
  have tq := tyd_tq hd hP (by omega)
  obtain ⟨z7, hz7⟩ := (Tq.list (k := 2) (m := 1500) (n := 11000) (xs := [d2, d2, d2, d2, d2, d2, d2]) (fun x hx => by
    have : x = d2 := by
      simp only [List.mem_cons, List.not_mem_nil, or_false] at hx
      rcases hx with rfl | rfl | rfl | rfl | rfl | rfl | rfl <;> rfl
    subst this
    exact tyd_tq2 hd hP (by omega)) (by show 7 * 1501 ≤ 11000; decide) (by show 7 ≤ 1000; decide)).repr (by decide) (by decide)
  have tb := (tyd_tq hb ⟨fun p hp' => hP.1 p (List.mem_of_mem_drop hp'), fun p hp' => hP.2 p (List.mem_of_mem_drop hp')⟩ (by omega)).fi (by decide)
  have c7 : ev (pureL F_24) (.or_ (.cmp .ne (.b1 .repr (.nm 11)) (.b1 .repr (.op .mul (.lst (.cons (.nm 3) .nil)) (.k (.int 7))))) (.or_ (.cmp .ne (.b1 .repr (.nm 2)) (.nm 5)) (.cmp .ne (.call 12 (.cons (.nm 1) (.cons (.nm 3) (.cons (.nm 9) .nil)))) (.nm 10)))) ((fm h P (.frz d2) (.frz (.int (k : Nat))) (.frz (.str zp)) (.frz d2) y7 y8 (.frz a) (.frz d9) (.frz (.list [d2, d2, d2, d2, d2, d2, d2])) .un .un .un).map SS.r) (some S3) = some (.bool false, some S3) := by
    refine ev_or_f (ne_repr (d := .list [d2, d2, d2, d2, d2, d2, d2]) (s1 := some S3) rfl ?_ hz7) (ev_or_f (ne_held (d := .list (P.map pD)) (s1 := some S3) rfl hzp rfl) ?_)
    · exact ev_op (x := .list [d2]) (y := .int 7) (s1 := some S3) rfl ev_k rfl
    · exact ev_cmp (x := d9) (y := d9) (s1 := some S3) (ev_call (as := [.d (.str h), .d d2, .d a]) (s1 := some S3) rfl P_p24_12 rfl e15) rfl (ne_fi tb)
  have h8 := ev_order (Φ := pureL F_24) (o := 16) (i := 0) (ρ := vw .f (fm h P (.frz d2) (.frz (.int (k : Nat))) (.frz (.str zp)) (.frz d2) y7 y8 (.frz a) (.frz d9) (.frz (.list [d2, d2, d2, d2, d2, d2, d2])) .un .un .un)) P_p24_16 (e := .nm 2) (S := S3) (S1 := S3) (xs := P.map pD) rfl rfl lP
  obtain ⟨R, pr, hr⟩ := perm_inv (f := pD) (orderS_perm (P.map pD).length (P.map pD) S3 rfl) P rfl
  rw [← hr] at h8
  generalize (orderS (P.map pD).length (P.map pD) S3).2 = S4 at h8
  have lr := pr.length_eq
  have sl : (sc (-1) R).length = R.length := by rw [sc, List.length_map]
  have e16 : ev (pureL F_24) (.comp (.tup (.cons (.nm 7) (.cons (.op .sub (.k (.int 0)) (.nm 8)) .nil))) (.two (.nm 7) (.nm 8)) (.seq (.call 16 (.src 0 (.cons (.nm 2) .nil)))) .nil [7, 8]) (vw .f (fm h P (.frz d2) (.frz (.int (k : Nat))) (.frz (.str zp)) (.frz d2) y7 y8 (.frz a) (.frz d9) (.frz (.list [d2, d2, d2, d2, d2, d2, d2])) .un .un .un)) (some S3) = some (.list ((sc (-1) R).map pD), some S4) := by
    have e : (sc (-1) R).map pD = R.map fun p => pD (p.1, 0 - p.2) := by
      rw [sc, List.map_map]
      refine List.map_congr_left fun p _ => ?_
      show pD (p.1, -1 * p.2) = pD (p.1, 0 - p.2)
      rw [show -1 * p.2 = 0 - p.2 by omega]
    rw [e]
    exact ev_comp (xs := R.map pD) (s1 := some S4) (evi_seq h8 rfl) (compRun_all pD (fun p => pD (p.1, 0 - p.2)) fun p _ => ⟨_, rfl, rfl, ev_tup (xs := [oD p.1, .int (0 - p.2)]) (evs_cons (s1 := some S4) rfl (evs_cons (s1 := some S4) (ev_op (x := .int 0) (y := .int p.2) (s1 := some S4) ev_k rfl rfl) evs_nil)) (by show 2 ≤ sizeLine; decide)⟩) (by rw [List.length_map]; exact len_ok (by omega))
  obtain ⟨d10, e17, hd10⟩ := sem_add_all hh (.list ((sc (-1) R).map pD)) (some S4) (sc (-1) R) P d2 rfl hd (neg_s fun p hp' => hp.s p (pr.mem_iff.mp hp')) (Num.neg (hn.sub fun p hp' => pr.mem_iff.mp hp')) (by rw [sl]; omega)
  have q10 : d10 = d0' := hd10.uniq hd0 (same_6 pr)
  subst q10
  have r8 : run (pureL F_24) (.set 12 .f (.call 9 (.cons (.nm 1) (.cons (.nm 3) (.cons (.comp (.tup (.cons (.nm 7) (.cons (.op .sub (.k (.int 0)) (.nm 8)) .nil))) (.two (.nm 7) (.nm 8)) (.seq (.call 16 (.src 0 (.cons (.nm 2) .nil)))) .nil [7, 8]) .nil))))) (fm h P (.frz d2) (.frz (.int (k : Nat))) (.frz (.str zp)) (.frz d2) y7 y8 (.frz a) (.frz d9) (.frz (.list [d2, d2, d2, d2, d2, d2, d2])) .un .un .un) (some S3) = some (.nx (fm h P (.frz d2) (.frz (.int (k : Nat))) (.frz (.str zp)) (.frz d2) y7 y8 (.frz a) (.frz d9) (.frz (.list [d2, d2, d2, d2, d2, d2, d2])) (.frz d10) .un .un) (some S4)) :=
    run_set (md := .f) (i := 12) (ρ := fm h P (.frz d2) (.frz (.int (k : Nat))) (.frz (.str zp)) (.frz d2) y7 y8 (.frz a) (.frz d9) (.frz (.list [d2, d2, d2, d2, d2, d2, d2])) .un .un .un) (ev_call (as := [.d (.str h), .d d2, .d (.list ((sc (-1) R).map pD))]) (s1 := some S4) (eva_cons (ev_nm rfl) (eva_cons (ev_nm rfl) (eva_cons e16 eva_nil))) P_p24_9 rfl e17) rfl (by show 12 < 15; decide)
  obtain ⟨d0', e18, hd0''⟩ := sem_empty hh (some S4)
  have q0 : d0' = d10 := hd0''.uniq hd0 ⟨rfl, rfl, fun _ => rfl⟩
  subst q0
  obtain ⟨z0, hz0⟩ := (tyd_tq hd0 ⟨nofun, nofun⟩ (Nat.zero_le _)).repr (by decide) (by decide)
  obtain ⟨t, e19, e20, ht⟩ := tell_same hh hd (by omega) (ty_gok (h := h) hP) (some S4)
  obtain ⟨zt, hzt⟩ : ∃ z, dRepr t = some (.str z) := by
    rcases ht with rfl | rfl | ⟨g, hg, rfl⟩
    · exact tq.repr (by decide) (by decide)
    · exact (Tq.none (k := 0) (n := 0)).repr (by decide) (by decide)
    · exact gok_repr hg
  have c9 : ev (pureL F_24) (.or_ (.cmp .ne (.b1 .repr (.nm 12)) (.b1 .repr (.call 6 (.cons (.nm 1) .nil)))) (.cmp .ne (.b1 .repr (.call 13 (.cons (.nm 1) (.cons (.nm 3) .nil)))) (.b1 .repr (.call 19 (.cons (.nm 1) (.cons (.nm 3) .nil)))))) ((fm h P (.frz d2) (.frz (.int (k : Nat))) (.frz (.str zp)) (.frz d2) y7 y8 (.frz a) (.frz d9) (.frz (.list [d2, d2, d2, d2, d2, d2, d2])) (.frz d0') .un .un).map SS.r) (some S4) = some (.bool false, some S4) :=
    ev_or_f (ne_repr (d := d0') (s1 := some S4) rfl (ev_call (as := [.d (.str h)]) (s1 := some S4) rfl P_p24_6 rfl e18) hz0) (ne_repr (d := t) (s1 := some S4) (ev_call (as := [.d (.str h), .d d2]) (s1 := some S4) rfl P_p24_13 rfl e19) (ev_call (as := [.d (.str h), .d d2]) (s1 := some S4) rfl P_p24_19 rfl e20) hzt)
  obtain ⟨V, S5, hV, e21⟩ := sem_w_near hd hP (by omega) S4
  obtain ⟨y13, y14, h10⟩ := near_loop (P := P) (x3 := .frz d2) (x4 := .frz (.int (k : Nat))) (x5 := .frz (.str zp)) (x6 := .frz d2) (x7 := y7) (x8 := y8) (x9 := .frz a) (x10 := .frz d9) (x11 := .frz (.list [d2, d2, d2, d2, d2, d2, d2])) (x12 := .frz d0') hh V .un .un (some S5) hV
  have r10 : run (pureL F_24) (.for_ (.nm 13) (.seq (.call 23 (.src 0 (.cons (.nm 3) .nil)))) M_w_made_right_1) (fm h P (.frz d2) (.frz (.int (k : Nat))) (.frz (.str zp)) (.frz d2) y7 y8 (.frz a) (.frz d9) (.frz (.list [d2, d2, d2, d2, d2, d2, d2])) (.frz d0') .un .un) (some S4) = some (.nx (fm h P (.frz d2) (.frz (.int (k : Nat))) (.frz (.str zp)) (.frz d2) y7 y8 (.frz a) (.frz d9) (.frz (.list [d2, d2, d2, d2, d2, d2, d2])) (.frz d0') y13 y14) (some S5)) := run_for (evi_seq (ev_call (as := [.src, .d d2]) (s1 := some S4) rfl P_p24_23 rfl e21) rfl) h10
  exact ⟨S5, sem_rt [.src, .frz (.str h), .un, .un, .un, .un, .un, .un, .un, .un, .un, .un, .un, .un, .un] rfl (runs_nx _ _ r0 (runs_nx _ _ r1 (runs_nx _ _ r2 (runs_nx _ _ r3 (runs_nx _ _ r4 (runs_nx _ _ r5 (runs_nx _ _ r6 (runs_nx _ _ (run_skip c7) (runs_nx _ _ r8 (runs_nx _ _ (run_skip c9) (runs_nx _ _ r10 (runs_rt (run_ret ev_k)))))))))))))⟩
end Os
end
set_option linter.all false
set_option maxRecDepth 100000
set_option maxHeartbeats 4000000
/-! N11i: the law. -/
namespace Os
open PySem PySem.Spec PyProof.Rows L2 PySem.W
theorem one_lap {h : Str} (hh : How h) (x3 : SS) (S : Src) : ∃ S', runs F_25 M_law_2 [.un, .src, .frz (.str h), x3, .un] (some S) = some (.nx [.un, .src, .frz (.str h), x3, .un] (some S')) := by
  obtain ⟨S', e⟩ := sem_w_made_right hh S
  exact ⟨S', runs_nx _ _ (run_skip (not_b' (ev_call (as := [.src, .d (.str h)]) (s1 := some S) rfl P_25_24 rfl e))) runs_nil⟩
theorem one_how {h : Str} (hh : How h) (x3 : SS) (S : Src) : ∃ S', runs F_25 M_law_3 [.un, .src, .frz (.str h), x3, .un] (some S) = some (.nx [.un, .src, .frz (.str h), .frz (.int 1), .un] (some S')) := by
  obtain ⟨S1, h1⟩ := one_lap hh (.frz (.int 0)) S
  obtain ⟨S2, h2⟩ := one_lap hh (.frz (.int 1)) S1
  refine ⟨S2, runs_nx _ _ (run_for (xs := [.int 0, .int 1]) (s1 := some S) rfl ?_) runs_nil⟩
  rw [forRun, show bindS (.nm 3) (.int 0) [.un, .src, .frz (.str h), x3, .un] = some [.un, .src, .frz (.str h), .frz (.int 0), .un] from rfl, Option.bind_some, h1, Option.bind_some]
  show forRun _ _ [.int 1] _ _ = _
  rw [forRun, show bindS (.nm 3) (.int 1) [.un, .src, .frz (.str h), .frz (.int 0), .un] = some [.un, .src, .frz (.str h), .frz (.int 1), .un] from rfl, Option.bind_some, h2, Option.bind_some]
  rfl
theorem law_runs : LawRuns := fun S => by
  obtain ⟨S1, h1⟩ := one_how .count .un S
  obtain ⟨S2, h2⟩ := one_how .sum (.frz (.int 1)) S1
  obtain ⟨S3, h3⟩ := one_how .least (.frz (.int 1)) S2
  obtain ⟨S4, h4⟩ := one_how .greatest (.frz (.int 1)) S3
  have r0 : run F_25 (.for_ (.nm 2) (.seq (.tup (.cons (.k (.str "count")) (.cons (.k (.str "sum")) (.cons (.k (.str "least")) (.cons (.k (.str "greatest")) .nil)))))) M_law_3) [.un, .src, .un, .un, .un] (some S) = some (.nx [.un, .src, .frz (.str "greatest"), .frz (.int 1), .un] (some S4)) := by
    refine run_for (xs := [.str "count", .str "sum", .str "least", .str "greatest"]) (s1 := some S) rfl ?_
    rw [forRun, show bindS (.nm 2) (.str "count") [.un, .src, .un, .un, .un] = some [.un, .src, .frz (.str "count"), .un, .un] from rfl, Option.bind_some, h1, Option.bind_some]
    show forRun _ _ [.str "sum", .str "least", .str "greatest"] _ _ = _
    rw [forRun, show bindS (.nm 2) (.str "sum") [.un, .src, .frz (.str "count"), .frz (.int 1), .un] = some [.un, .src, .frz (.str "sum"), .frz (.int 1), .un] from rfl, Option.bind_some, h2, Option.bind_some]
    show forRun _ _ [.str "least", .str "greatest"] _ _ = _
    rw [forRun, show bindS (.nm 2) (.str "least") [.un, .src, .frz (.str "sum"), .frz (.int 1), .un] = some [.un, .src, .frz (.str "least"), .frz (.int 1), .un] from rfl, Option.bind_some, h3, Option.bind_some]
    show forRun _ _ [.str "greatest"] _ _ = _
    rw [forRun, show bindS (.nm 2) (.str "greatest") [.un, .src, .frz (.str "least"), .frz (.int 1), .un] = some [.un, .src, .frz (.str "greatest"), .frz (.int 1), .un] from rfl, Option.bind_some, h4, Option.bind_some]
    rfl
  have r1 : run F_25 (.for_ (.nm 4) (.seq (.tup (.cons (.k (.str "Count")) (.cons (.k (.str "most")) (.cons (.k (.str "")) (.cons (.k .none) (.cons (.k (.int 0)) (.cons (.k (.bool true)) (.cons (.tup .nil) (.cons (.lst (.cons (.k (.str "sum")) .nil)) (.cons .dict0 (.cons (.tup (.cons (.k (.str "sum")) .nil)) (.cons (.k (.str "sum ")) .nil))))))))))))) M_law_1) [.un, .src, .frz (.str "greatest"), .frz (.int 1), .un] (some S4) = some (.nx [.un, .src, .frz (.str "greatest"), .frz (.int 1), .frz (.str "sum ")] (some S4)) := by kernel_rfl
  have c2 : ev F_25 (.cmp .ne (.comp (.call 6 (.cons (.nm 2) .nil)) (.nm 2) (.seq (.tup (.cons (.k (.str "count")) (.cons (.k (.str "sum")) (.cons (.k (.str "least")) (.cons (.k (.str "greatest")) .nil)))))) .nil [2]) (.lst (.cons (.k (.int 0)) (.cons (.k (.int 0)) (.cons (.tup .nil) (.cons (.tup .nil) .nil)))))) (([.un, .src, .frz (.str "greatest"), .frz (.int 1), .frz (.str "sum ")] : LSS).map SS.r) (some S4) = some (.bool false, some S4) := by kernel_rfl
  have r3 : run F_25 (.ret (.cmp .eq (.comp (.call 3 (.cons (.nm 2) .nil)) (.nm 2) (.seq (.tup (.cons (.k (.str "count")) (.cons (.k (.str "sum")) (.cons (.k (.str "least")) (.cons (.k (.str "greatest")) .nil)))))) .nil [2]) (.op .mul (.lst (.cons (.k (.bool true)) .nil)) (.k (.int 4))))) [.un, .src, .frz (.str "greatest"), .frz (.int 1), .frz (.str "sum ")] (some S4) = some (.rt (.bool true) (some S4)) := by kernel_rfl
  exact ⟨some S4, runs_nx _ _ r0 (runs_nx _ _ r1 (runs_nx _ _ (run_skip c2) (runs_rt r3)))⟩
end Os
theorem PySem.Challenge.cw_oncestream_k11_tallies_holds : PySem.Challenge.rw_oncestream_k11_tallies.Holds :=
  Os.k11_of Os.law_runs
