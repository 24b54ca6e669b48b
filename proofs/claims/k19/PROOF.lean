import PyProof.Rows.All
import Wide.All
import OpenK.AllK
import Wide.FinOn
import HandS.ForMost
import HandS.Star
import HandS.Flow
import KE.KDictKeyed
import KE.KeyNested
import PyProof.Rows.EqDataRows
import PyProof.ReprRoads
import KE.SortData
import KE.SortKeyHeap
import HandS.TupAny
import HandS.Conv
import HandS.Zip
import HandS.IsInst
import HandS.RaiseMore
import HandS.Strs
import PyProof.P3In
import KE.KIndexOf
import HandS.Style
import KE.GoesEnum
import HandS.Walk
import PyProof.ReprBulk
import PyProof.ReprLen
import KE.KExcSuper
import KE.KSuper
import HandS.ExcIs
import HandS.ExcField
import HandS.ExcInit
import HandS.WordsExc
import HandS.NestedK
import HandS.Ends
import PySem.Challenge.RW_oncestream_k19_barriers_and_channels
set_option Elab.async false
section
set_option linter.all false
set_option maxRecDepth 100000
set_option maxHeartbeats 4000000
/-! OsA: data over the abstract heap. Dat G H v d: the value v reads as the data d, its lists and dicts stand where G says. -/
namespace Os
open PySem PySem.Spec PyProof.Rows L2

abbrev D := PyData
instance : Inhabited D := ⟨.none⟩

mutual
/-- what a value is as a key of a dict -/
def keyOf : D → Option NestedKey
  | .none => some .none
  | .bool b => some (.num (if b = true then 1 else 0))
  | .int i => some (.num i)
  | .str x => some (.text x)
  | .list _ => none
  | .dict _ => none
  | .tuple xs => (keysOf xs).map NestedKey.tup
def keysOf : List D → Option (List NestedKey)
  | [] => some []
  | x :: xs => (keyOf x).bind fun k => (keysOf xs).map fun ks => k :: ks
end

mutual
/-- no list and no dict in it -/
def imm : D → Bool
  | .list _ => false
  | .dict _ => false
  | .tuple xs => immAll xs
  | .none => true
  | .bool _ => true
  | .int _ => true
  | .str _ => true
def immAll : List D → Bool
  | [] => true
  | x :: xs => imm x && immAll xs
end

/-- a dict of ours: keys of any kind, told by what they are -/
def dO (w : World) (a : Addr) (es : List (NestedKey × V × V)) : HO := .ext fun h => (a == sysModules) = false ∧ es.length ≤ sizeLine ∧ ∃ (o : Obj) (ds : Array DictEntry) (ep : Nat), h.get? a = some o ∧ o.ExactDict ∧ o.data = .dict ds ep ∧
  Paired (fun (e : NestedKey × V × V) (d : DictEntry) => d.hash = e.1.hash w ∧ RelV e.2.1 d.key ∧ RelV e.2.2 d.val) es ds.toList ∧ (es.map (·.1)).Nodup

mutual
inductive Dat (w : World) (G : Addr → Prop) (H : Hp) : V → D → Prop
  | none : Dat w G H .non .none
  | bool (b) : Dat w G H (.bl b) (.bool b)
  | int (i) : Dat w G H (.int i) (.int i)
  | str (x) : Dat w G H (.str x) (.str x)
  | list {a vs xs} : G a → H a = some (.lst vs) → Dats w G H vs xs → Dat w G H (.ref a) (.list xs)
  | tup {a o vs xs} : H a = some (.frz o (.tup vs)) → o.dict = .none → Dats w G H vs xs → Dat w G H (.ref a) (.tuple xs)
  | dict {a} {es : List (NestedKey × V × V)} {kvs : List (D × D)} : G a → H a = some (dO w a es) → Dats w G H (es.map (·.2.1)) (kvs.map (·.1)) → Dats w G H (es.map (·.2.2)) (kvs.map (·.2)) →
      keysOf (kvs.map (·.1)) = some (es.map (·.1)) → Dat w G H (.ref a) (.dict kvs)
inductive Dats (w : World) (G : Addr → Prop) (H : Hp) : List V → List D → Prop
  | nil : Dats w G H [] []
  | cons {v vs d ds} : Dat w G H v d → Dats w G H vs ds → Dats w G H (v :: vs) (d :: ds)
end

section
variable {w : World} {G G' : Addr → Prop} {H H' : Hp}
mutual
theorem Dat.go (hk : ∀ b o, G b → H b = some o → H' b = some o ∧ G' b) (ht : ∀ b o xs, H b = some (.frz o (.tup xs)) → H' b = some (.frz o (.tup xs))) : ∀ {v : V} {d : D}, Dat w G H v d → Dat w G' H' v d
  | _, _, .none => .none
  | _, _, .bool b => .bool b
  | _, _, .int i => .int i
  | _, _, .str x => .str x
  | _, _, .list g e r => .list (hk _ _ g e).2 (hk _ _ g e).1 (Dats.go hk ht r)
  | _, _, .tup e n r => .tup (ht _ _ _ e) n (Dats.go hk ht r)
  | _, _, .dict g e r q k => .dict (hk _ _ g e).2 (hk _ _ g e).1 (Dats.go hk ht r) (Dats.go hk ht q) k
theorem Dats.go (hk : ∀ b o, G b → H b = some o → H' b = some o ∧ G' b) (ht : ∀ b o xs, H b = some (.frz o (.tup xs)) → H' b = some (.frz o (.tup xs))) : ∀ {vs : List V} {ds : List D}, Dats w G H vs ds → Dats w G' H' vs ds
  | _, _, .nil => .nil
  | _, _, .cons r q => .cons (Dat.go hk ht r) (Dats.go hk ht q)
end
theorem Dat.mono {v : V} {d : D} (r : Dat w G H v d) (h : ∀ b, G b → G' b) : Dat w G' H v d := Dat.go (fun b o g e => ⟨e, h b g⟩) (fun _ _ _ e => e) r
theorem Dats.mono {vs : List V} {ds : List D} (r : Dats w G H vs ds) (h : ∀ b, G b → G' b) : Dats w G' H vs ds := Dats.go (fun b o g e => ⟨e, h b g⟩) (fun _ _ _ e => e) r
theorem Dat.same {v : V} {d : D} (r : Dat w G H v d) (h : Same H H') : Dat w G H' v d := Dat.go (fun b o g e => ⟨h b o e, g⟩) (fun b _ _ e => h b _ e) r
theorem Dats.same {vs : List V} {ds : List D} (r : Dats w G H vs ds) (h : Same H H') : Dats w G H' vs ds := Dats.go (fun b o g e => ⟨h b o e, g⟩) (fun b _ _ e => h b _ e) r
mutual
/-- what holds no list and no dict hangs on the tuples alone -/
theorem Dat.imm (ht : ∀ b o xs, H b = some (.frz o (.tup xs)) → H' b = some (.frz o (.tup xs))) : ∀ {v : V} {d : D}, Dat w G H v d → imm d = true → Dat w G' H' v d
  | _, _, .none, _ => .none
  | _, _, .bool b, _ => .bool b
  | _, _, .int i, _ => .int i
  | _, _, .str x, _ => .str x
  | _, _, .list g e r, h => by simp [Os.imm] at h
  | _, _, .tup e n r, h => .tup (ht _ _ _ e) n (Dats.imm ht r (by simpa [Os.imm] using h))
  | _, _, .dict g e r q k, h => by simp [Os.imm] at h
theorem Dats.imm (ht : ∀ b o xs, H b = some (.frz o (.tup xs)) → H' b = some (.frz o (.tup xs))) : ∀ {vs : List V} {ds : List D}, Dats w G H vs ds → immAll ds = true → Dats w G' H' vs ds
  | _, _, .nil, _ => .nil
  | _, _, .cons r q, h => by
    rw [immAll, Bool.and_eq_true] at h
    exact .cons (Dat.imm ht r h.1) (Dats.imm ht q h.2)
end
theorem Dats.length : ∀ {vs : List V} {ds : List D}, Dats w G H vs ds → vs.length = ds.length
  | _, _, .nil => rfl
  | _, _, .cons _ q => by simp [Dats.length q]
theorem Dats.get : ∀ {vs : List V} {ds : List D} {i : Nat} {d : D}, Dats w G H vs ds → ds[i]? = some d → ∃ v, vs[i]? = some v ∧ Dat w G H v d
  | _, _, _, _, .nil, e => by simp at e
  | _, _, 0, _, .cons r _, e => by
    simp at e
    subst e
    exact ⟨_, rfl, r⟩
  | _, _, i + 1, d, .cons _ q, e => by
    obtain ⟨v, h1, h2⟩ := Dats.get (i := i) (d := d) q (by simpa using e)
    exact ⟨v, by simpa using h1, h2⟩
theorem Dats.getV : ∀ {vs : List V} {ds : List D} {i : Nat} {v : V}, Dats w G H vs ds → vs[i]? = some v → ∃ d, ds[i]? = some d ∧ Dat w G H v d
  | _, _, _, _, .nil, e => by simp at e
  | _, _, 0, _, .cons r _, e => by
    simp at e
    subst e
    exact ⟨_, rfl, r⟩
  | _, _, i + 1, v, .cons _ q, e => by
    obtain ⟨d, h1, h2⟩ := Dats.getV (i := i) (v := v) q (by simpa using e)
    exact ⟨d, by simpa using h1, h2⟩
theorem Dats.append : ∀ {vs ws : List V} {ds es : List D}, Dats w G H vs ds → Dats w G H ws es → Dats w G H (vs ++ ws) (ds ++ es)
  | _, _, _, _, .nil, q => q
  | _, _, _, _, .cons r t, q => .cons r (Dats.append t q)
theorem Dats.take : ∀ {vs : List V} {ds : List D} (n : Nat), Dats w G H vs ds → Dats w G H (vs.take n) (ds.take n)
  | _, _, 0, _ => .nil
  | _, _, _ + 1, .nil => .nil
  | _, _, n + 1, .cons r t => .cons r (Dats.take n t)
theorem Dats.drop : ∀ {vs : List V} {ds : List D} (n : Nat), Dats w G H vs ds → Dats w G H (vs.drop n) (ds.drop n)
  | _, _, 0, r => r
  | _, _, _ + 1, .nil => .nil
  | _, _, n + 1, .cons _ t => Dats.drop n t
theorem Dats.flat : ∀ {vss : List (List V)} {dss : List (List D)}, Paired (fun vs ds => Dats w G H vs ds) vss dss → Dats w G H vss.flatten dss.flatten
  | _, _, .nil => .nil
  | _, _, .cons r t => by
    rw [List.flatten_cons, List.flatten_cons]
    exact r.append (Dats.flat t)
theorem Dats.rep {v : V} {d : D} (r : Dat w G H v d) : ∀ n, Dats w G H (List.replicate n v) (List.replicate n d)
  | 0 => .nil
  | n + 1 => .cons r (Dats.rep r n)
theorem Dats.rev : ∀ {vs : List V} {ds : List D}, Dats w G H vs ds → Dats w G H vs.reverse ds.reverse
  | _, _, .nil => .nil
  | _, _, .cons r t => by
    rw [List.reverse_cons, List.reverse_cons]
    exact (Dats.rev t).append (.cons r .nil)
end

/-! ### as the library reads it -/
section
variable {P : Program} {w : World} {G : Addr → Prop} {H : Hp} {h : Heap}
theorem dats_of {α : Type} {f : α → V} {g : α → Value} : ∀ {l : List α}, (∀ x ∈ l, RelV (f x) (g x)) → Vals (l.map f) (l.map g)
  | [], _ => .nil
  | x :: l, q => .cons (q x (List.mem_cons_self ..)) (dats_of fun y hy => q y (List.mem_cons_of_mem _ hy))
theorem vals_keys : ∀ {es : List (NestedKey × V × V)} {ds : List DictEntry}, Paired (fun (e : NestedKey × V × V) (d : DictEntry) => d.hash = e.1.hash w ∧ RelV e.2.1 d.key ∧ RelV e.2.2 d.val) es ds → Vals (es.map (·.2.1)) (ds.map (·.key)) ∧ Vals (es.map (·.2.2)) (ds.map (·.val))
  | _, _, .nil => ⟨.nil, .nil⟩
  | _, _, .cons r t => ⟨.cons r.2.1 (vals_keys t).1, .cons r.2.2 (vals_keys t).2⟩
mutual
theorem Dat.reads (hok : HOk P w H h) : ∀ {v : V} {d : D} {u : Value}, Dat w G H v d → RelV v u → ∃ as, Reads h u d as
  | _, _, _, .none, q => by
    cases q
    exact ⟨[], .none⟩
  | _, _, _, .bool b, q => by
    cases q
    exact ⟨[], .bool b⟩
  | _, _, _, .int i, q => by
    obtain ⟨t, rfl⟩ := q
    exact ⟨[], .int i t⟩
  | _, _, _, .str x, q => by
    obtain ⟨t, rfl⟩ := q
    exact ⟨[], .str x t⟩
  | _, _, _, .list (a := a) g e r, q => by
    cases q
    obtain ⟨_, its, n, rv, eo⟩ := hok _ _ e
    obtain ⟨as, ra⟩ := Dats.reads hok r rv
    exact ⟨a :: as, .list eo rfl rfl (by simpa using ra)⟩
  | _, _, _, .tup e nd r, q => by
    cases q
    obtain ⟨_, _, its, rv, o, eo, c, n, dd⟩ := hok _ _ e
    obtain ⟨as, ra⟩ := Dats.reads hok r rv
    exact ⟨as, .tuple eo c dd (by simpa using ra)⟩
  | _, _, _, .dict (a := a) g e r s k, q => by
    cases q
    obtain ⟨⟨_, _, o, ds, ep, eo, ed, dd, pr, _⟩, _, _⟩ := hok _ _ e
    obtain ⟨vk, vv⟩ := vals_keys pr
    obtain ⟨as, ra⟩ := Dats.reads hok r vk
    obtain ⟨bs, rb⟩ := Dats.reads hok s vv
    exact ⟨a :: as ++ bs, .dict eo ed.1 dd ra rb⟩
theorem Dats.reads (hok : HOk P w H h) : ∀ {vs : List V} {ds : List D} {us : List Value}, Dats w G H vs ds → Vals vs us → ∃ as, ReadsAll h us ds as
  | _, _, _, .nil, q => by
    cases q
    exact ⟨[], .nil⟩
  | _, _, _, .cons r t, q => by
    cases q with
    | cons q1 q2 =>
      obtain ⟨as, ra⟩ := Dat.reads hok r q1
      obtain ⟨bs, rb⟩ := Dats.reads hok t q2
      exact ⟨as ++ bs, .cons ra rb⟩
end
mutual
theorem Dat.nested (hok : HOk P w H h) : ∀ {v : V} {d : D} {u : Value} {k : NestedKey}, Dat w G H v d → RelV v u → keyOf d = some k → NestedIs h k u
  | _, _, _, _, .none, q, e => by
    cases q
    simp [keyOf] at e
    subst e
    exact .none
  | _, _, _, _, .bool b, q, e => by
    cases q
    simp [keyOf] at e
    subst e
    exact .bool rfl
  | _, _, _, _, .int i, q, e => by
    obtain ⟨t, rfl⟩ := q
    simp [keyOf] at e
    subst e
    exact .int i t
  | _, _, _, _, .str x, q, e => by
    obtain ⟨t, rfl⟩ := q
    simp [keyOf] at e
    subst e
    exact .text x t
  | _, _, _, _, .list g e r, q, z => by simp [keyOf] at z
  | _, _, _, _, .tup e nd r, q, z => by
    cases q
    rw [keyOf, Option.map_eq_some_iff] at z
    obtain ⟨ks, z, rfl⟩ := z
    obtain ⟨_, _, its, rv, o, eo, c, n, dd⟩ := hok _ _ e
    exact .tup eo c dd (by simpa using Dats.nested hok r rv z)
  | _, _, _, _, .dict g e r s k, q, z => by simp [keyOf] at z
theorem Dats.nested (hok : HOk P w H h) : ∀ {vs : List V} {ds : List D} {us : List Value} {ks : List NestedKey}, Dats w G H vs ds → Vals vs us → keysOf ds = some ks → NestedAll h ks us
  | _, _, _, _, .nil, q, e => by
    cases q
    simp [keysOf] at e
    subst e
    exact .nil
  | _, _, _, _, .cons r t, q, e => by
    cases q with
    | cons q1 q2 =>
      rw [keysOf, Option.bind_eq_some_iff] at e
      obtain ⟨k, e1, e2⟩ := e
      rw [Option.map_eq_some_iff] at e2
      obtain ⟨ks, e2, rfl⟩ := e2
      exact .cons (Dat.nested hok r q1 e1) (Dats.nested hok t q2 e2)
end
end
end Os
end
section
set_option linter.all false
set_option maxRecDepth 100000
set_option maxHeartbeats 4000000
/-! OsB: a small language, as data, and what it does: the evaluator. No Python and no heap here. -/
namespace Os
open PySem PySem.Spec PyProof.Rows L2

/-- the law's source of numbers -/
structure Src where
  cells : List Int
  left : Int
  mixed : Int
  turn : Int
abbrev S1 := Option Src
/-- what a slot holds, as an expression reads it -/
inductive SL where
  | un | d (x : D) | src
  deriving Inhabited
abbrev LS := List SL
/-- what a def does: its arguments, the source -/
abbrev FS := List SL → S1 → Option (D × S1)
/-- a def that may be called: its name, what it does, whether what it gives is always a new list -/
structure FE where
  name : Str
  ar : Nat
  sem : FS
  fresh : Bool

inductive O2 where
  | add | sub | mul | fdiv | mod | pow
  deriving DecidableEq
inductive CO where
  | eq | ne | lt | le | gt | ge | isin | notin
  deriving DecidableEq
/-- built-ins of one argument -/
inductive B1 where
  | len | tuple | list | sorted | repr | int | abs | sum | all | any
  deriving DecidableEq
inductive B2 where
  | max | min
  deriving DecidableEq
/-- types that isinstance is asked for -/
inductive TY where
  | int | bool | str | tuple | list | dict
  deriving DecidableEq
inductive MT where
  | nm (i : Nat)
  | two (a b : MT)
  | three (a b c : MT)
  | four (a b c d : MT)

mutual
inductive ME where
  | nm (i : Nat)
  | k (d : D)
  | tup (es : MEs)
  | lst (es : MEs)
  | op (o : O2) (a b : ME)
  | neg (a : ME)
  | cmp (o : CO) (a b : ME)
  | isN (a : ME)
  | notN (a : ME)
  | chn (o q : CO) (a b c : ME)
  | and_ (a b : ME)
  | or_ (a b : ME)
  | not_ (a : ME)
  | ite (c a b : ME)
  | idx (a i : ME)
  | slc (a : ME) (lo hi : MO)
  | revl (a : ME)
  | call (f : Nat) (as : MAs)
  | b1 (f : B1) (a : ME)
  | b2 (f : B2) (a b : ME)
  | isi (a : ME) (t : TY)
  | index (o a : ME)
  | join (o a : ME)
  | comp (elt : ME) (t : MT) (it : MI) (ifs : MEs) (own : List Nat)
inductive MO where
  | no
  | yes (e : ME)
inductive MEs where
  | nil
  | cons (e : ME) (r : MEs)
  | star (e : ME) (r : MEs)
inductive MAs where
  | nil
  | cons (e : ME) (r : MAs)
  | src (i : Nat) (r : MAs)
inductive MI where
  | seq (e : ME)
  | range1 (e : ME)
  | range2 (a b : ME)
  | enum (e : ME)
  | zip (a b : ME)
end

/-! ### operations on data -/
def dOp : O2 → D → D → Option D
  | .add, .int i, .int j => some (.int (i + j))
  | .add, .str x, .str y => if x.length + y.length ≤ sizeLine then some (.str (x ++ y)) else none
  | .add, .list xs, .list ys => if xs.length + ys.length ≤ sizeLine then some (.list (xs ++ ys)) else none
  | .add, .tuple xs, .tuple ys => if xs.length + ys.length ≤ sizeLine then some (.tuple (xs ++ ys)) else none
  | .sub, .int i, .int j => some (.int (i - j))
  | .mul, .int i, .int j => if (-(2 ^ 64) < i ∧ i < 2 ^ 64) ∨ (-(2 ^ 64) < j ∧ j < 2 ^ 64) then some (.int (i * j)) else none
  | .mul, .list xs, .int n => if 0 ≤ n ∧ xs.length * n.toNat ≤ sizeLine ∧ n < 2 ^ 62 then some (.list (List.replicate n.toNat xs).flatten) else none
  | .fdiv, .int i, .int j => if 0 < j ∧ j < 1073741824 then some (.int (i / j)) else none
  | .mod, .int i, .int j => if 0 < j then some (.int (i % j)) else none
  | .pow, .int i, .int j => if 0 ≤ j ∧ j ≤ 1000000 ∧ i.natAbs < 2 ^ 64 then some (.int (i ^ j.toNat)) else none
  | _, _, _ => none

/-- a value's truth -/
def tru : D → Option Bool
  | .none => some false
  | .bool b => some b
  | .int i => some (i != 0)
  | .str x => if x.length ≤ sizeLine then some ((x.length : Int) != 0) else none
  | .list xs => some (!xs.isEmpty)
  | .tuple xs => some (!xs.isEmpty)
  | .dict _ => none

def dEq : D → D → Option Bool
  | .str x, .str y => some (decide (x = y))
  | .int i, .int j => some (decide (i = j))
  | x, y => if SeqAt.shaped x = true ∧ SeqAt.shaped y = true then some (PyData.eqv x y) else none

def dLt : D → D → Option Bool
  | .int i, .int j => some (decide (i < j))
  | .str x, .str y => some (decide (x.cps.toList < y.cps.toList))
  | _, _ => none
def dLe : D → D → Option Bool
  | .int i, .int j => some (decide (i ≤ j))
  | _, _ => none

def dIn (x : D) : D → Option Bool
  | .list ys => if SeqAt.shaped x = true ∧ SeqAt.shaped (.list ys) = true then some (ys.any fun y => PyData.eqv y x) else none
  | .tuple ys => if SeqAt.shaped x = true ∧ SeqAt.shaped (.tuple ys) = true then some (ys.any fun y => PyData.eqv y x) else none
  | .str z => match x with
    | .str y => some (!(Builtin.Str.occurrences z y 0 z.length 1).isEmpty)
    | _ => none
  | _ => none

def dCmp : CO → D → D → Option Bool
  | .eq, x, y => dEq x y
  | .ne, x, y => (dEq x y).map (!·)
  | .lt, x, y => dLt x y
  | .gt, x, y => dLt y x
  | .le, x, y => dLe x y
  | .ge, x, y => dLe y x
  | .isin, x, y => dIn x y
  | .notin, x, y => (dIn x y).map (!·)

def isNone : D → Bool
  | .none => true
  | _ => false

/-- the item at a place -/
def dIdx : D → D → Option D
  | .list xs, .int i => atI xs i
  | .tuple xs, .int i => atI xs i
  | .str z, .int i => if z.length ≤ sizeLine then (atI z.cps.toList i).map fun c => .str ⟨#[c]⟩ else none
  | _, _ => none
/-- a slice's bounds -/
def bnd : D → Option (Option Int)
  | .int i => some (some i)
  | _ => none
def cutD (xs : List D) (lo hi : Option Int) : List D := (xs.drop (HT.sIx xs.length 0 lo)).take (HT.sIx xs.length xs.length hi - HT.sIx xs.length 0 lo)
def dSlc : D → Option Int → Option Int → Option D
  | .list xs, lo, hi => some (.list (cutD xs lo hi))
  | .tuple xs, lo, hi => some (.tuple (cutD xs lo hi))
  | .str z, lo, hi => if z.length ≤ sizeLine then some (.str (cutS z lo hi)) else none
  | _, _, _ => none

def intsOf : List D → Option (List Int)
  | [] => some []
  | .int i :: r => (intsOf r).map (i :: ·)
  | _ :: _ => none
def boolsOf : List D → Option (List Bool)
  | [] => some []
  | .bool i :: r => (boolsOf r).map (i :: ·)
  | _ :: _ => none
def strsOf : List D → Option (List Str)
  | [] => some []
  | .str i :: r => (strsOf r).map (i :: ·)
  | _ :: _ => none

/-- may be sorted: alike data, no text out of range, not too deep -/
def alikeL (xs : List D) : Bool := (xs.all fun x => xs.all fun y => PySem.W.alike x y) && ((xs.all fun x => match x with | .tuple (_ :: _) => true | _ => false) || (xs.all fun x => match x with | .none => false | .tuple _ => false | _ => true)) && xs.all fun x => decide (x.depth ≤ 60)
def dSorted (xs : List D) : Option (List D) := if alikeL xs = true ∧ xs.length ≤ sizeLine then some (xs.mergeSort (PySem.W.dataLe false id)) else none

def dRepr (x : D) : Option D := if x.showable = true ∧ x.hasDict = false ∧ x.depth ≤ 60 ∧ x.shown.length ≤ sizeLine then some (.str x.shown) else none

def dB1 : B1 → D → Option D
  | .len, .list xs => some (.int xs.length)
  | .len, .tuple xs => some (.int xs.length)
  | .len, .str z => if z.length ≤ sizeLine then some (.int z.length) else none
  | .tuple, .list xs => some (.tuple xs)
  | .tuple, .tuple xs => some (.tuple xs)
  | .list, .list xs => some (.list xs)
  | .list, .tuple xs => some (.list xs)
  | .sorted, .list xs => (dSorted xs).map .list
  | .repr, x => dRepr x
  | .int, .int i => some (.int i)
  | .int, .bool b => some (.int (if b = true then 1 else 0))
  | .abs, .int i => some (.int (if i < 0 then -i else i))
  | .sum, .list xs => (intsOf xs).map fun ns => .int ns.sum
  | .all, .list xs => (boolsOf xs).map fun bs => .bool (bs.all id)
  | .any, .list xs => (boolsOf xs).map fun bs => .bool (bs.any id)
  | _, _ => none
def dB2 : B2 → D → D → Option D
  | .max, .int i, .int j => some (.int (if j > i then j else i))
  | .min, .int i, .int j => some (.int (if j < i then j else i))
  | _, _, _ => none

def isTy : TY → D → Bool
  | .int, .int _ => true
  | .int, .bool _ => true
  | .bool, .bool _ => true
  | .str, .str _ => true
  | .tuple, .tuple _ => true
  | .list, .list _ => true
  | .dict, .dict _ => true
  | _, _ => false

/-- xs.index(x), x is there; keys alone -/
def dIndex : D → D → Option D
  | .tuple xs, x => match keysOf xs, keyOf x with
    | some ks, some k => if k ∈ ks ∧ k.depth ≤ 60 then some (.int (ks.idxOf k : Nat)) else none
    | _, _ => none
  | _, _ => none
def dJoin : D → D → Option D
  | .str z, .list xs => match strsOf xs with
    | some ys => if (ys.map (·.length)).sum + ys.length * z.length ≤ 16777216 then some (.str (Txt.join z ys)) else none
    | _ => none
  | _, _ => none

/-! ### slots -/
def wipeS (ρ : LS) : List Nat → LS
  | [] => ρ
  | v :: vs => (wipeS ρ vs).set v .un
/-- a target's slots -/
def bindT : MT → D → LS → Option LS
  | .nm i, x, ρ => if i < ρ.length then some (ρ.set i (.d x)) else none
  | .two a b, x, ρ => match x with
    | .tuple [p, q] => (bindT a p ρ).bind (bindT b q)
    | _ => none
  | .three a b c, x, ρ => match x with
    | .tuple [p, q, r] => ((bindT a p ρ).bind (bindT b q)).bind (bindT c r)
    | _ => none
  | .four a b c d, x, ρ => match x with
    | .tuple [p, q, r, t] => (((bindT a p ρ).bind (bindT b q)).bind (bindT c r)).bind (bindT d t)
    | _ => none
def MT.slots : MT → List Nat
  | .nm i => [i]
  | .two a b => a.slots ++ b.slots
  | .three a b c => a.slots ++ b.slots ++ c.slots
  | .four a b c d => a.slots ++ b.slots ++ c.slots ++ d.slots

/-- the turns of a comprehension -/
def compRun (ft : LS → S1 → Option (Bool × S1)) (fe : LS → S1 → Option (D × S1)) (t : MT) (ρ : LS) : List D → S1 → Option (List D × S1)
  | [], s => some ([], s)
  | x :: xs, s => (bindT t x ρ).bind fun ρ1 => (ft ρ1 s).bind fun (b, s1) =>
      if b = true then (fe ρ1 s1).bind fun (y, s2) => (compRun ft fe t ρ xs s2).map fun (ys, s3) => (y :: ys, s3) else compRun ft fe t ρ xs s1

def seqOf : D → Option (List D)
  | .list xs => some xs
  | .tuple xs => some xs
  | _ => none
def rangeD (lo : Int) (n : Nat) : List D := (List.range n).map fun i => .int (lo + (i : Nat))
def enumD (xs : List D) : List D := (List.range xs.length).zipWith (fun i x => .tuple [.int (i : Nat), x]) xs
def zipD (xs ys : List D) : List D := xs.zipWith (fun x y => .tuple [x, y]) ys

mutual
def ev (Φ : List FE) : ME → LS → S1 → Option (D × S1)
  | .nm i, ρ, s => match ρ[i]? with
    | some (.d x) => some (x, s)
    | _ => none
  | .k d, _, s => some (d, s)
  | .tup es, ρ, s => (evs Φ es ρ s).bind fun (ds, s1) => if ds.length ≤ sizeLine then some (.tuple ds, s1) else none
  | .lst es, ρ, s => (evs Φ es ρ s).bind fun (ds, s1) => if ds.length ≤ sizeLine then some (.list ds, s1) else none
  | .op o a b, ρ, s => (ev Φ a ρ s).bind fun (x, s1) => (ev Φ b ρ s1).bind fun (y, s2) => (dOp o x y).map fun z => (z, s2)
  | .neg a, ρ, s => (ev Φ a ρ s).bind fun (x, s1) => match x with
    | .int i => some (.int (-i), s1)
    | _ => none
  | .cmp o a b, ρ, s => (ev Φ a ρ s).bind fun (x, s1) => (ev Φ b ρ s1).bind fun (y, s2) => (dCmp o x y).map fun z => (.bool z, s2)
  | .isN a, ρ, s => (ev Φ a ρ s).bind fun (x, s1) => some (.bool (isNone x), s1)
  | .notN a, ρ, s => (ev Φ a ρ s).bind fun (x, s1) => some (.bool (!isNone x), s1)
  | .chn o q a b c, ρ, s => (ev Φ a ρ s).bind fun (x, s1) => (ev Φ b ρ s1).bind fun (y, s2) => (dCmp o x y).bind fun z =>
      if z = true then (ev Φ c ρ s2).bind fun (w, s3) => (dCmp q y w).map fun z => (.bool z, s3) else some (.bool false, s2)
  | .and_ a b, ρ, s => (ev Φ a ρ s).bind fun (x, s1) => (tru x).bind fun t => if t = true then ev Φ b ρ s1 else some (x, s1)
  | .or_ a b, ρ, s => (ev Φ a ρ s).bind fun (x, s1) => (tru x).bind fun t => if t = true then some (x, s1) else ev Φ b ρ s1
  | .not_ a, ρ, s => (ev Φ a ρ s).bind fun (x, s1) => (tru x).map fun t => (.bool (!t), s1)
  | .ite c a b, ρ, s => (ev Φ c ρ s).bind fun (x, s1) => (tru x).bind fun t => if t = true then ev Φ a ρ s1 else ev Φ b ρ s1
  | .idx a i, ρ, s => (ev Φ a ρ s).bind fun (x, s1) => (ev Φ i ρ s1).bind fun (y, s2) => (dIdx x y).map fun z => (z, s2)
  | .slc a lo hi, ρ, s => (ev Φ a ρ s).bind fun (x, s1) => (evo Φ lo ρ s1).bind fun (l, s2) => (evo Φ hi ρ s2).bind fun (h, s3) => (dSlc x l h).map fun z => (z, s3)
  | .revl a, ρ, s => (ev Φ a ρ s).bind fun (x, s1) => match x with
    | .list xs => some (.list xs.reverse, s1)
    | _ => none
  | .call f as, ρ, s => (eva Φ as ρ s).bind fun (xs, s1) => match Φ[f]? with
    | some F => if xs.length = F.ar then F.sem xs s1 else none
    | none => none
  | .b1 f a, ρ, s => (ev Φ a ρ s).bind fun (x, s1) => (dB1 f x).map fun z => (z, s1)
  | .b2 f a b, ρ, s => (ev Φ a ρ s).bind fun (x, s1) => (ev Φ b ρ s1).bind fun (y, s2) => (dB2 f x y).map fun z => (z, s2)
  | .isi a t, ρ, s => (ev Φ a ρ s).bind fun (x, s1) => some (.bool (isTy t x), s1)
  | .index o a, ρ, s => (ev Φ o ρ s).bind fun (x, s1) => (ev Φ a ρ s1).bind fun (y, s2) => (dIndex x y).map fun z => (z, s2)
  | .join o a, ρ, s => (ev Φ o ρ s).bind fun (x, s1) => (ev Φ a ρ s1).bind fun (y, s2) => (dJoin x y).map fun z => (z, s2)
  | .comp elt t it ifs own, ρ, s => (evi Φ it ρ s).bind fun (xs, s1) => (compRun (evt Φ ifs) (ev Φ elt) t (wipeS ρ own) xs s1).bind fun (ys, s2) => if ys.length ≤ sizeLine then some (.list ys, s2) else none
def evs (Φ : List FE) : MEs → LS → S1 → Option (List D × S1)
  | .nil, _, s => some ([], s)
  | .cons e r, ρ, s => (ev Φ e ρ s).bind fun (x, s1) => (evs Φ r ρ s1).map fun (xs, s2) => (x :: xs, s2)
  | .star e r, ρ, s => (ev Φ e ρ s).bind fun (x, s1) => (seqOf x).bind fun ys => (evs Φ r ρ s1).map fun (xs, s2) => (ys ++ xs, s2)
def evt (Φ : List FE) : MEs → LS → S1 → Option (Bool × S1)
  | .nil, _, s => some (true, s)
  | .cons e r, ρ, s => (ev Φ e ρ s).bind fun (x, s1) => (tru x).bind fun t => if t = true then evt Φ r ρ s1 else some (false, s1)
  | .star _ _, _, _ => none
def eva (Φ : List FE) : MAs → LS → S1 → Option (List SL × S1)
  | .nil, _, s => some ([], s)
  | .cons e r, ρ, s => (ev Φ e ρ s).bind fun (x, s1) => (eva Φ r ρ s1).map fun (xs, s2) => (.d x :: xs, s2)
  | .src i r, ρ, s => match ρ[i]? with
    | some .src => (eva Φ r ρ s).map fun (xs, s2) => (.src :: xs, s2)
    | _ => none
def evo (Φ : List FE) : MO → LS → S1 → Option (Option Int × S1)
  | .no, _, s => some (none, s)
  | .yes e, ρ, s => (ev Φ e ρ s).bind fun (x, s1) => (bnd x).map fun i => (i, s1)
def evi (Φ : List FE) : MI → LS → S1 → Option (List D × S1)
  | .seq e, ρ, s => (ev Φ e ρ s).bind fun (x, s1) => (seqOf x).map fun xs => (xs, s1)
  | .range1 e, ρ, s => (ev Φ e ρ s).bind fun (x, s1) => match x with
    | .int j => if -(2 ^ 62) ≤ j ∧ j < 2 ^ 62 then some (rangeD 0 j.toNat, s1) else none
    | _ => none
  | .range2 a b, ρ, s => (ev Φ a ρ s).bind fun (x, s1) => (ev Φ b ρ s1).bind fun (y, s2) => match x, y with
    | .int i, .int j => if (-(2 ^ 62) ≤ i ∧ i < 2 ^ 62) ∧ -(2 ^ 62) ≤ j ∧ j < 2 ^ 62 then some (rangeD i (j - i).toNat, s2) else none
    | _, _ => none
  | .enum e, ρ, s => (ev Φ e ρ s).bind fun (x, s1) => match x with
    | .list xs => some (enumD xs, s1)
    | .tuple xs => some (enumD xs, s1)
    | _ => none
  | .zip a b, ρ, s => (ev Φ a ρ s).bind fun (x, s1) => (ev Φ b ρ s1).bind fun (y, s2) => match x, y with
    | .list xs, .list ys => some (zipD xs ys, s2)
    | .tuple xs, .tuple ys => some (zipD xs ys, s2)
    | _, _ => none
end

/-- always a new list -/
def newE (Φ : List FE) : ME → Bool
  | .lst _ => true
  | .comp _ _ _ _ _ => true
  | .call f _ => match Φ[f]? with
    | some F => F.fresh
    | none => false
  | .b1 .list _ => true
  | .b1 .sorted _ => true
  | .revl _ => true
  | .ite _ a b => newE Φ a && newE Φ b
  | _ => false
end Os
end
section
set_option linter.all false
set_option maxRecDepth 100000
set_option maxHeartbeats 4000000
/-! OsC: how the evaluator's answers stand over the abstract heap; the operations. -/
namespace Os
open PySem PySem.Spec PyProof.Rows L2

/-- the source's own addresses -/
def Own2 (g : Option (Addr × Addr)) (b : Addr) : Prop := match g with
  | none => False
  | some (a, c) => b = a ∨ b = c
def SrcR (g : Option (Addr × Addr)) (H : Hp) (s : S1) : Prop := match g, s with
  | none, none => True
  | some (a, c), some S => H a = some (.dK [(.inr "cells", .ref c), (.inr "left", .int S.left), (.inr "mixed", .int S.mixed), (.inr "turn", .int S.turn)]) ∧ H c = some (.lst (S.cells.map V.int))
  | _, _ => False
def Keep (g : Option (Addr × Addr)) (H H' : Hp) : Prop := ∀ b o, H b = some o → ¬ Own2 g b → H' b = some o
def Up (G : Addr → Prop) (H : Hp) : Addr → Prop := fun b => G b ∨ H b = none

section
variable {w : World} {g : Option (Addr × Addr)} {G G' : Addr → Prop} {H H1 H2 H3 : Hp} {s s1 s2 : S1}
theorem Keep.refl : Keep g H H := fun _ _ e _ => e
theorem Keep.trans (a : Keep g H H1) (b : Keep g H1 H2) : Keep g H H2 := fun c o e n => b c o (a c o e n) n
theorem Keep.of (a : Same H H1) : Keep g H H1 := fun c o e _ => a c o e
theorem SrcR.tup (r : SrcR g H s) {b : Addr} {o : Obj} {xs : List V} (e : H b = some (.frz o (.tup xs))) : ¬ Own2 g b := by
  intro z
  unfold SrcR at r
  split at r
  · exact z
  · rcases z with z | z
    · rw [z, r.1] at e
      cases e
    · rw [z, r.2] at e
      cases e
  · exact r
theorem SrcR.there (r : SrcR g H s) {b : Addr} (z : Own2 g b) : H b ≠ none := by
  unfold SrcR at r
  split at r
  · exact z.elim
  · rcases z with z | z
    · rw [z, r.1]
      exact fun e => nomatch e
    · rw [z, r.2]
      exact fun e => nomatch e
  · exact r.elim
theorem SrcR.same (r : SrcR g H s) (k : Same H H1) : SrcR g H1 s := by
  unfold SrcR at r ⊢
  split at r
  · trivial
  · exact ⟨k _ _ r.1, k _ _ r.2⟩
  · exact r.elim
theorem Keep.alive (k : Keep g H H1) (r : SrcR g H1 s) {b : Addr} (e : H1 b = none) : H b = none := by
  cases q : H b with
  | none => rfl
  | some o =>
    by_cases z : Own2 g b
    · exact absurd e (r.there z)
    · rw [k b o q z] at e
      cases e
theorem Up.up (k : Keep g H H1) (r : SrcR g H1 s) (b : Addr) (h : Up (Up G H) H1 b) : Up G H b := h.elim id fun e => .inr (k.alive r e)
theorem Up.gok (r : SrcR g H s) (hg : ∀ b, G b → ¬ Own2 g b) : ∀ b, Up G H b → ¬ Own2 g b := fun b h z => h.elim (fun q => hg b q z) fun e => r.there z e
theorem Dat.keep {v : V} {d : D} (q : Dat w G H v d) (k : Keep g H H1) (r : SrcR g H s) (hg : ∀ b, G b → ¬ Own2 g b) : Dat w G H1 v d :=
  Dat.go (fun b o gb e => ⟨k b o e (hg b gb), gb⟩) (fun b o xs e => k b _ e (r.tup e)) q
theorem Dats.keep {v : List V} {d : List D} (q : Dats w G H v d) (k : Keep g H H1) (r : SrcR g H s) (hg : ∀ b, G b → ¬ Own2 g b) : Dats w G H1 v d :=
  Dats.go (fun b o gb e => ⟨k b o e (hg b gb), gb⟩) (fun b o xs e => k b _ e (r.tup e)) q
end

/-- the state of an expression: the slots that it may read, the source -/
structure ES (w : World) (g : Option (Addr × Addr)) (G : Addr → Prop) (σ : L2.St) (H : Hp) (ρ : LS) (s : S1) : Prop where
  gok : ∀ b, G b → ¬ Own2 g b
  src : SrcR g H s
  env : ∀ (i : Nat) (x : D), ρ[i]? = some (SL.d x) → ∃ v, σ[i]? = some (some v) ∧ Dat w G H v x
  esrc : ∀ (i : Nat), ρ[i]? = some SL.src → ∃ (a c : Addr), g = some (a, c) ∧ σ[i]? = some (some (V.ref a))
  len : ρ.length = σ.length
/-- behind an expression -/
structure Ps (w : World) (g : Option (Addr × Addr)) (G : Addr → Prop) (H : Hp) (H' : Hp) (v : V) (d : D) (s' : S1) : Prop where
  keep : Keep g H H'
  src : SrcR g H' s'
  dat : Dat w (Up G H) H' v d
/-- a new list, nothing in it is it -/
def NewL (w : World) (G : Addr → Prop) (H H' : Hp) (v : V) (d : D) : Prop := ∃ (p : Addr) (vs : List V) (ds : List D), v = .ref p ∧ d = .list ds ∧ H p = none ∧ H' p = some (.lst vs) ∧ Dats w (fun b => Up G H b ∧ b ≠ p) H' vs ds

def tE (w : World) (Φ : List FE) (m : ME) : TE := fun σ H Q => ∃ g G ρ s d s', ES w g G σ H ρ s ∧ ev Φ m ρ s = some (d, s') ∧ ∀ v H', Ps w g G H H' v d s' → (newE Φ m = true → NewL w G H H' v d) → Q v H'
def tT (w : World) (Φ : List FE) (m : ME) : TT := fun σ H Q => ∃ g G ρ s d s' b, ES w g G σ H ρ s ∧ ev Φ m ρ s = some (d, s') ∧ tru d = some b ∧ ∀ H', Keep g H H' → SrcR g H' s' → Q b H'

section
variable {w : World} {Φ : List FE} {g : Option (Addr × Addr)} {G : Addr → Prop} {σ : L2.St} {H H1 H2 H3 : Hp} {ρ : LS} {s s1 s2 s3 : S1}
theorem ES.next {v : V} {d : D} (E : ES w g G σ H ρ s) (p : Ps w g G H H1 v d s1) : ES w g (Up G H) σ H1 ρ s1 where
  gok := Up.gok E.src E.gok
  src := p.src
  env := fun i x e => by
    obtain ⟨v, h1, h2⟩ := E.env i x e
    exact ⟨v, h1, (h2.keep p.keep E.src E.gok).mono fun b h => .inl h⟩
  esrc := E.esrc
  len := E.len
theorem ES.step (E : ES w g G σ H ρ s) (k : Keep g H H1) (r : SrcR g H1 s1) : ES w g (Up G H) σ H1 ρ s1 where
  gok := Up.gok E.src E.gok
  src := r
  env := fun i x e => by
    obtain ⟨v, h1, h2⟩ := E.env i x e
    exact ⟨v, h1, (h2.keep k E.src E.gok).mono fun b h => .inl h⟩
  esrc := E.esrc
  len := E.len
/-- a value that stood at the first stop, at the second -/
theorem ES.carry {v u : V} {d e : D} (E : ES w g G σ H ρ s) (k : Keep g H H1) (r : SrcR g H1 s1) (q : Dat w (Up G H) H1 v d) (k2 : Keep g H1 H2) : Dat w (Up G H) H2 v d := q.keep k2 r (Up.gok E.src E.gok)
theorem Ps.comp {v : V} {d : D} (E : ES w g G σ H ρ s) (k : Keep g H H1) (r : SrcR g H1 s1) (p : Ps w g (Up G H) H1 H2 v d s2) : Ps w g G H H2 v d s2 :=
  ⟨k.trans p.keep, p.src, p.dat.mono fun b h => Up.up k r b h⟩

theorem bind_some {α β : Type} {o : Option α} {f : α → Option β} {y : β} (h : o.bind f = some y) : ∃ x, o = some x ∧ f x = some y := Option.bind_eq_some_iff.mp h
theorem map_some {α β : Type} {o : Option α} {f : α → β} {y : β} (h : o.map f = some y) : ∃ x, o = some x ∧ f x = y := Option.map_eq_some_iff.mp h

/-- one part, then what is made of it -/
theorem one {m : ME} {x : D} {Q : VK} (E : ES w g G σ H ρ s) (h : ev Φ m ρ s = some (x, s1)) (k : ∀ v H1, Keep g H H1 → SrcR g H1 s1 → Dat w (Up G H) H1 v x → Q v H1) : tE w Φ m σ H Q :=
  ⟨g, G, ρ, s, x, s1, E, h, fun v H1 p _ => k v H1 p.keep p.src p.dat⟩
/-- two parts -/
theorem two {m n : ME} {x y : D} {R : V → V → Hp → Prop} (E : ES w g G σ H ρ s) (h : ev Φ m ρ s = some (x, s1)) (h' : ev Φ n ρ s1 = some (y, s2))
    (k : ∀ v u H2, Keep g H H2 → SrcR g H2 s2 → Dat w (Up G H) H2 v x → Dat w (Up G H) H2 u y → R v u H2) : tE w Φ m σ H fun v H1 => tE w Φ n σ H1 fun u H2 => R v u H2 :=
  one E h fun v H1 k1 r1 d1 => one (E.step k1 r1) h' fun u H2 k2 r2 d2 =>
    k v u H2 (k1.trans k2) r2 (d1.keep k2 r1 (Up.gok E.src E.gok)) (d2.mono fun b q => Up.up k1 r1 b q)
end

/-! ### operations by data -/
/-- a two-place operation on data that changes nothing -/
def rD2 (w : World) (f : D → D → Option D) : R2 := fun x y H Q => ∃ G dx dy d, Dat w G H x dx ∧ Dat w G H y dy ∧ f dx dy = some d ∧ ∀ v H', Same H H' → Dat w (Up G H) H' v d → Q v H'
def rD1 (w : World) (f : D → Option D) : V → Hp → VK → Prop := fun x H Q => ∃ G dx d, Dat w G H x dx ∧ f dx = some d ∧ ∀ v H', Same H H' → Dat w (Up G H) H' v d → Q v H'

section
variable {w : World} {G : Addr → Prop} {H : Hp} {p : Addr} {vs : List V} {ds : List D}
theorem same_new {o : HO} (h : H p = none) : Same H (upd H p o) := fun b x e => by
  rw [upd_ne (ne_of_none e h)]
  exact e
theorem Dat.newL (h : H p = Option.none) (r : Dats w G H vs ds) : Dat w (Up G H) (upd H p (.lst vs)) (.ref p) (.list ds) :=
  .list (.inr h) upd_same ((r.same (same_new h)).mono fun b q => .inl q)
theorem Dat.newT {o : Obj} (h : H p = Option.none) (n : o.dict = .none) (r : Dats w G H vs ds) : Dat w (Up G H) (upd H p (.frz o (.tup vs))) (.ref p) (.tuple ds) :=
  .tup upd_same n ((r.same (same_new h)).mono fun b q => .inl q)
mutual
/-- what is read stands -/
theorem Dat.live : ∀ {v : V} {d : D}, Dat w G H v d → Dat w (fun b => G b ∧ H b ≠ Option.none) H v d
  | _, _, .none => .none
  | _, _, .bool b => .bool b
  | _, _, .int i => .int i
  | _, _, .str x => .str x
  | _, _, .list g e r => .list ⟨g, by rw [e]; exact fun z => nomatch z⟩ e (Dats.live r)
  | _, _, .tup e n r => .tup e n (Dats.live r)
  | _, _, .dict g e r q k => .dict ⟨g, by rw [e]; exact fun z => nomatch z⟩ e (Dats.live r) (Dats.live q) k
theorem Dats.live : ∀ {vs : List V} {ds : List D}, Dats w G H vs ds → Dats w (fun b => G b ∧ H b ≠ Option.none) H vs ds
  | _, _, .nil => .nil
  | _, _, .cons r q => .cons (Dat.live r) (Dats.live q)
end
theorem NewL.mk (h : H p = none) (r : Dats w G H vs ds) : NewL w G H (upd H p (.lst vs)) (.ref p) (.list ds) :=
  ⟨p, vs, ds, rfl, rfl, h, upd_same, (r.live.same (same_new h)).mono fun b q => ⟨.inl q.1, fun e => q.2 (e ▸ h)⟩⟩
theorem Dat.weak (r : Dat w G H v d) : Dat w (Up G H) H v d := r.mono fun b q => .inl q
end

section
variable {X : Cx}
theorem Dat.listE {w : World} {G : Addr → Prop} {H : Hp} {v : V} {ds : List D} (r : Dat w G H v (.list ds)) : ∃ a vs, v = .ref a ∧ G a ∧ H a = some (.lst vs) ∧ Dats w G H vs ds := by
  cases r with
  | list g e r => exact ⟨_, _, rfl, g, e, r⟩
theorem Dat.tupE {w : World} {G : Addr → Prop} {H : Hp} {v : V} {ds : List D} (r : Dat w G H v (.tuple ds)) : ∃ a o vs, v = .ref a ∧ H a = some (.frz o (.tup vs)) ∧ o.dict = Option.none ∧ Dats w G H vs ds := by
  cases r with
  | tup e n r => exact ⟨_, _, _, rfl, e, n, r⟩
theorem Dat.intE {w : World} {G : Addr → Prop} {H : Hp} {v : V} {i : Int} (r : Dat w G H v (.int i)) : v = .int i := by
  cases r
  rfl
theorem Dat.strE {w : World} {G : Addr → Prop} {H : Hp} {v : V} {i : Str} (r : Dat w G H v (.str i)) : v = .str i := by
  cases r
  rfl
theorem Dat.boolE {w : World} {G : Addr → Prop} {H : Hp} {v : V} {i : Bool} (r : Dat w G H v (.bool i)) : v = .bl i := by
  cases r
  rfl
theorem Dat.noneE {w : World} {G : Addr → Prop} {H : Hp} {v : V} (r : Dat w G H v .none) : v = .non := by
  cases r
  rfl

theorem SqT.fz {K : PySem.W.Frag} {H : Hp} {a : Addr} {o : Obj} {vs : List V} (e : H a = some (.frz o (.tup vs))) : SqT K H a vs := .inl (.inr ⟨o, e⟩)
/-- a new tuple, its object known -/
def TupO (H : Hp) (Q : VK) (xs : List V) : Prop := ∀ p o, H p = none → o.dict = none → Q (.ref p) (upd H p (.frz o (.tup xs)))
theorem newTup {pins : List (Addr × Obj)} {σ : L2.St} {H : Hp} {s : Shared} {Q : VK} {xs : List V} {us : List Value} {h' : Heap} {tk : Nat} (I : Inv X pins σ H s) (k : ∀ b o, s.heap.get? b = some o → h'.get? b = some o) (r : Vals xs us) (hz : xs.length ≤ sizeLine) (q : TupO H Q xs) :
    EP X pins σ Q (.ref h'.objs.size) { s with heap := h'.push { cls := .type "tuple", data := .seq us.toArray }, toks := tk } := by
  have I1 : Inv X pins σ H { s with heap := h', toks := tk } := I.kept k
  have hf : H h'.objs.size = none := I1.hok.fresh (Nat.le_refl _)
  refine ⟨.ref h'.objs.size, upd H h'.objs.size (.frz { cls := .type "tuple", data := .seq us.toArray } (.tup xs)), I1.laid (t' := tk) (fun b u e => Heap.get?_push_of_some _ e) (Nat.le_refl _) ?_, rfl, q _ _ hf rfl⟩
  exact ⟨Heap.get?_push_size _ rfl, hz, us, r, IsTup.new _ _⟩
/-- t + u -/
theorem op_catF : OpR X (binaryOp .Add) (fun x y H Q => ∃ a b xs ys, x = .ref a ∧ y = .ref b ∧ SqT X.K H a xs ∧ SqT X.K H b ys ∧ xs.length + ys.length ≤ sizeLine ∧ (xs = [] → Q (.ref b) H) ∧ (xs ≠ [] → ys = [] → Q (.ref a) H) ∧ (xs ≠ [] → ys ≠ [] → TupO H Q (xs ++ ys))) := by
  intro pins s σ H x y v u Q I rx ry h
  obtain ⟨a, b, xs, ys, rfl, rfl, ha, hb, hz, q0, q1, q2⟩ := h
  by_cases hx : xs = []
  · subst hx
    cases rx
    cases ry
    obtain ⟨its, r1, p1, _⟩ := I.tuple ha
    obtain ⟨its2, r2, p2, _⟩ := I.tuple hb
    cases r1
    exact cat_tup0 p1 p2 ⟨.ref b, H, I, rfl, q0 rfl⟩
  · cases rx
    cases ry
    obtain ⟨its, r1, p1, _⟩ := I.tuple ha
    obtain ⟨its2, r2, p2, _⟩ := I.tuple hb
    refine HT.cat_tup p1 p2 (fun z => hx (r1.nil_iff.mp z)) (fun z => ⟨.ref a, H, I, rfl, q1 hx (r2.nil_iff.mp z)⟩) (fun z => ?_) (by rw [← r1.length, ← r2.length]; exact hz)
    exact newTup (tk := s.toks) I (fun _ _ e => e) (r1.append r2) (by rw [List.length_append]; exact hz) (q2 hx fun w => z (r2.nil_iff.mpr w))
/-- t[lo:hi] -/
theorem sl_tupF : SlR X (fun x lo hi H Q => ∃ a xs, x = .ref a ∧ SqT X.K H a xs ∧ (HT.sIx xs.length 0 lo = 0 ∧ HT.sIx xs.length xs.length hi = xs.length → Q (.ref a) H) ∧ (¬ (HT.sIx xs.length 0 lo = 0 ∧ HT.sIx xs.length xs.length hi = xs.length) → TupO H Q (cutV xs lo hi))) := by
  intro pins s σ H x v vl vu lo hi sl Q I rx hs pl pu h
  obtain ⟨a, xs, rfl, hx, q1, q2⟩ := h
  cases rx
  obtain ⟨its, r, ht, hz⟩ := I.tuple hx
  have hlen : its.toArray.size = xs.length := by rw [List.size_toArray]; exact r.length.symm
  refine ⟨"tuple", _, PyProof.Rows.slot_tuple_getitem.lookup, ht.typeIs, ?_⟩
  by_cases hw : HT.sIx xs.length 0 lo = 0 ∧ HT.sIx xs.length xs.length hi = xs.length
  · exact getItem_tuple_whole ht hs pl pu (by rw [hlen]; exact hw) ⟨.ref a, H, I, rfl, q1 hw⟩
  · refine HT.getItem_tuple_cut ht hs pl pu (by rw [hlen]; exact hw) ?_ (by rw [hlen]; exact hz)
    rw [hlen]
    exact newTup (tk := s.toks) I (fun _ _ e => e) ((r.drop (HT.sIx xs.length 0 lo)).take (HT.sIx xs.length xs.length hi - HT.sIx xs.length 0 lo)) (Nat.le_trans (cutV_length xs lo hi) hz) (q2 hw)
theorem call_tupleF : CallR X (.type "tuple") (fun xs H Q => ∃ p ys, xs = [.ref p] ∧ ((SqL X.K H p ys ∧ TupO H Q ys) ∨ (SqT X.K H p ys ∧ Q (.ref p) H))) := by
  intro pins s σ H xs us Q I r h
  obtain ⟨p, ys, rfl, h⟩ := h
  obtain ⟨u, rfl, rx⟩ := vals1 r
  cases rx
  rcases h with ⟨hq, q⟩ | ⟨hq, q⟩
  · obtain ⟨its, r', pl, hz⟩ := I.list hq
    have hlen := r'.length
    exact call_tuple_list pl.isList (fun h' kp => newTup (tk := s.toks) I kp r' hz q) (by simp only [List.size_toArray] <;> omega)
  · obtain ⟨its, r', pl, hz⟩ := I.tuple hq
    exact call_tuple_same pl ⟨.ref p, H, I, rfl, q⟩
theorem pe_tupF {x1} {es : List Expr} {t : TA} {pos : Pos} (h : PA X es t) : PE X (.Tuple es x1 pos) (fun σ H Q => t σ H fun xs H1 => xs.length ≤ sizeLine ∧ TupO H1 Q xs) := by
  refine ⟨fun pins s σ H Q I hq => ?_⟩
  refine wpAny_Tuple_spliced (thn (h.run pos pins s σ H _ I hq) fun us s1 ⟨xs, H1, I1, r, z, q⟩ => ⟨by rw [← r.length]; exact z, ?_⟩)
  exact newTup (tk := s1.toks) I1 (fun _ _ e => e) r z q

theorem op_addD : OpR X (binaryOp .Add) (rD2 X.w (dOp .add)) := by
  intro pins s σ H x y v u Q I rx ry ⟨G, dx, dy, d, hx, hy, hd, q⟩
  unfold dOp at hd
  split at hd <;> try (cases hd; done)
  all_goals (rename_i h0; first | cases h0 | skip)
  · cases hd
    obtain rfl := hx.intE
    obtain rfl := hy.intE
    exact op_add pins s σ H _ _ v u Q I rx ry ⟨_, _, rfl, rfl, q _ _ (Same.refl H) (.int _)⟩
  · obtain rfl := hx.strE
    obtain rfl := hy.strE
    split at hd
    · cases hd
      exact op_add_str pins s σ H _ _ v u Q I rx ry ⟨_, _, rfl, rfl, by assumption, q _ _ (Same.refl H) (.str _)⟩
    · cases hd
  · obtain ⟨a, vs, rfl, _, e, r⟩ := hx.listE
    obtain ⟨b, us, rfl, _, e', r'⟩ := hy.listE
    split at hd
    · cases hd
      rename_i hz
      exact op_cat pins s σ H _ _ v u Q I rx ry ⟨_, _, _, _, rfl, rfl, e, e', by rw [r.length, r'.length]; exact hz, fun p hp => q _ _ (same_new hp) (Dat.newL hp (r.append r'))⟩
    · cases hd
  · obtain ⟨a, o, vs, rfl, e, nd, r⟩ := hx.tupE
    obtain ⟨b, o', us, rfl, e', nd', r'⟩ := hy.tupE
    split at hd
    · cases hd
      rename_i hz
      refine op_catF pins s σ H _ _ v u Q I rx ry ⟨_, _, _, _, rfl, rfl, SqT.fz e, SqT.fz e', by rw [r.length, r'.length]; exact hz, fun z => ?_, fun _ z => ?_, fun _ _ p o hp ho => q _ _ (same_new hp) (Dat.newT hp ho (r.append r'))⟩
      · subst z
        cases r
        exact q _ _ (Same.refl H) hy.weak
      · subst z
        cases r'
        rw [List.append_nil] at q
        exact q _ _ (Same.refl H) hx.weak
    · cases hd
theorem op_subD : OpR X (binaryOp .Sub) (rD2 X.w (dOp .sub)) := by
  intro pins s σ H x y v u Q I rx ry ⟨G, dx, dy, d, hx, hy, hd, q⟩
  unfold dOp at hd
  split at hd <;> try (cases hd; done)
  all_goals (rename_i h0; first | cases h0 | skip)
  · cases hd
    obtain rfl := hx.intE
    obtain rfl := hy.intE
    exact op_sub pins s σ H _ _ v u Q I rx ry ⟨_, _, rfl, rfl, q _ _ (Same.refl H) (.int _)⟩
theorem Dats.reps {w : World} {G : Addr → Prop} {H : Hp} {vs : List V} {ds : List D} (r : Dats w G H vs ds) : ∀ n, Dats w G H (List.replicate n vs).flatten (List.replicate n ds).flatten
  | 0 => .nil
  | n + 1 => by
    rw [List.replicate_succ, List.replicate_succ, List.flatten_cons, List.flatten_cons]
    exact r.append (Dats.reps r n)
theorem op_mulD : OpR X (binaryOp .Mult) (rD2 X.w (dOp .mul)) := by
  intro pins s σ H x y v u Q I rx ry ⟨G, dx, dy, d, hx, hy, hd, q⟩
  unfold dOp at hd
  split at hd <;> try (cases hd; done)
  all_goals (rename_i h0; first | cases h0 | skip)
  · obtain rfl := hx.intE
    obtain rfl := hy.intE
    split at hd
    · cases hd
      rename_i hc
      exact op_mul pins s σ H _ _ v u Q I rx ry ⟨_, _, rfl, rfl, hc, q _ _ (Same.refl H) (.int _)⟩
    · cases hd
  · obtain ⟨a, vs, rfl, _, e, r⟩ := hx.listE
    obtain rfl := hy.intE
    split at hd
    · cases hd
      rename_i hz
      exact op_rep pins s σ H _ _ v u Q I rx ry ⟨_, _, _, rfl, rfl, e, by omega, by omega, by rw [r.length]; exact hz.2.1, fun p hp => q _ _ (same_new hp) (Dat.newL hp (r.reps _))⟩
    · cases hd
theorem op_fdivD : OpR X (binaryOp .FloorDiv) (rD2 X.w (dOp .fdiv)) := by
  intro pins s σ H x y v u Q I rx ry ⟨G, dx, dy, d, hx, hy, hd, q⟩
  unfold dOp at hd
  split at hd <;> try (cases hd; done)
  all_goals (rename_i h0; first | cases h0 | skip)
  · obtain rfl := hx.intE
    obtain rfl := hy.intE
    split at hd
    · cases hd
      rename_i hc
      exact op_fdiv pins s σ H _ _ v u Q I rx ry ⟨_, _, rfl, rfl, hc, q _ _ (Same.refl H) (.int _)⟩
    · cases hd
theorem op_modD : OpR X (binaryOp .Mod) (rD2 X.w (dOp .mod)) := by
  intro pins s σ H x y v u Q I rx ry ⟨G, dx, dy, d, hx, hy, hd, q⟩
  unfold dOp at hd
  split at hd <;> try (cases hd; done)
  all_goals (rename_i h0; first | cases h0 | skip)
  · obtain rfl := hx.intE
    obtain rfl := hy.intE
    split at hd
    · cases hd
      rename_i hc
      exact op_mod pins s σ H _ _ v u Q I rx ry ⟨_, _, rfl, rfl, hc, q _ _ (Same.refl H) (.int _)⟩
    · cases hd
theorem op_powD : OpR X (binaryOp .Pow) (rD2 X.w (dOp .pow)) := by
  intro pins s σ H x y v u Q I rx ry ⟨G, dx, dy, d, hx, hy, hd, q⟩
  unfold dOp at hd
  split at hd <;> try (cases hd; done)
  all_goals (rename_i h0; first | cases h0 | skip)
  · obtain rfl := hx.intE
    obtain rfl := hy.intE
    split at hd
    · cases hd
      rename_i hc
      exact op_pow pins s σ H _ _ v u Q I rx ry ⟨_, _, rfl, rfl, hc, q _ _ (Same.refl H) (.int _)⟩
    · cases hd
end
end Os
end
section
set_option linter.all false
set_option maxRecDepth 100000
set_option maxHeartbeats 4000000
/-! OsD: comparisons, truth, places, slices, built-ins, by data. -/
namespace Os
open PySem PySem.Spec PyProof.Rows L2

/-- what a context of ours knows besides -/
structure XR (X : Cx) : Prop where
  calm : X.calm = true
  un : X.A.units + 100 < cLine
  gd : X.A.guards = some []

def rC2 (w : World) (f : D → D → Option Bool) : R2 := fun x y H Q => ∃ G dx dy b, Dat w G H x dx ∧ Dat w G H y dy ∧ f dx dy = some b ∧ Q (.bl b) H
def rB1 (w : World) (f : D → Option D) : List V → Hp → VK → Prop := fun xs H Q => ∃ x, xs = [x] ∧ rD1 w f x H Q

section
variable {X : Cx}
theorem reads_of {pins : List (Addr × Obj)} {σ : L2.St} {H : Hp} {s : Shared} {G : Addr → Prop} {v : V} {u : Value} {d : D} (I : Inv X pins σ H s) (r : Dat X.w G H v d) (q : RelV v u) : ∃ as, Reads s.heap u d as := r.reads I.hok q

theorem dS {a b : Str} : decide (V.str a = V.str b) = decide (a = b) := by
  rw [Bool.eq_iff_iff]
  simp
theorem dI {a b : Int} : decide (V.int a = V.int b) = decide (a = b) := by
  rw [Bool.eq_iff_iff]
  simp
theorem op_eqC (R : XR X) : OpR X (compareOp .Eq) (rC2 X.w dEq) := by
  intro pins s σ H x y v u Q I rx ry ⟨G, dx, dy, b, hx, hy, hd, q⟩
  unfold dEq at hd
  split at hd
  · cases hd
    obtain rfl := hx.strE
    obtain rfl := hy.strE
    exact op_eq pins s σ H _ _ v u Q I rx ry ⟨rfl, by rw [dS]; exact q⟩
  · cases hd
    obtain rfl := hx.intE
    obtain rfl := hy.intE
    exact op_eq pins s σ H _ _ v u Q I rx ry ⟨rfl, by rw [dI]; exact q⟩
  · split at hd
    · cases hd
      rename_i hc
      obtain ⟨as, ra⟩ := reads_of I hx rx
      obtain ⟨bs, rb⟩ := reads_of I hy ry
      exact eq_dataH ra rb hc.1 hc.2 (by have := R.un; omega) ⟨.bl _, H, I, rfl, q⟩
    · cases hd
theorem op_neC (R : XR X) : OpR X (compareOp .NotEq) (rC2 X.w fun x y => (dEq x y).map (!·)) := by
  intro pins s σ H x y v u Q I rx ry ⟨G, dx, dy, b, hx, hy, hd, q⟩
  replace hd := map_some hd
  obtain ⟨b', hd, rfl⟩ := hd
  unfold dEq at hd
  split at hd
  · cases hd
    obtain rfl := hx.strE
    obtain rfl := hy.strE
    exact op_ne pins s σ H _ _ v u Q I rx ry ⟨rfl, by rw [dS]; exact q⟩
  · cases hd
    obtain rfl := hx.intE
    obtain rfl := hy.intE
    exact op_ne pins s σ H _ _ v u Q I rx ry ⟨rfl, by rw [dI]; exact q⟩
  · split at hd
    · cases hd
      rename_i hc
      obtain ⟨as, ra⟩ := reads_of I hx rx
      obtain ⟨bs, rb⟩ := reads_of I hy ry
      exact ne_dataH ra rb hc.1 hc.2 (by have := R.un; omega) ⟨.bl _, H, I, rfl, q⟩
    · cases hd
theorem op_ltC : OpR X (compareOp .Lt) (rC2 X.w dLt) := by
  intro pins s σ H x y v u Q I rx ry ⟨G, dx, dy, b, hx, hy, hd, q⟩
  unfold dLt at hd
  split at hd
  · cases hd
    obtain rfl := hx.intE
    obtain rfl := hy.intE
    exact op_lt pins s σ H _ _ v u Q I rx ry ⟨_, _, rfl, rfl, q⟩
  · cases hd
    obtain rfl := hx.strE
    obtain rfl := hy.strE
    exact op_lt_str pins s σ H _ _ v u Q I rx ry ⟨_, _, rfl, rfl, q⟩
  · cases hd
theorem op_gtC : OpR X (compareOp .Gt) (rC2 X.w fun x y => dLt y x) := by
  intro pins s σ H x y v u Q I rx ry ⟨G, dx, dy, b, hx, hy, hd, q⟩
  dsimp only at hd
  unfold dLt at hd
  split at hd
  · cases hd
    obtain rfl := hx.intE
    obtain rfl := hy.intE
    exact op_gt pins s σ H _ _ v u Q I rx ry ⟨_, _, rfl, rfl, q⟩
  · cases hd
    obtain rfl := hx.strE
    obtain rfl := hy.strE
    exact op_gt_str pins s σ H _ _ v u Q I rx ry ⟨_, _, rfl, rfl, q⟩
  · cases hd
theorem op_leC : OpR X (compareOp .LtE) (rC2 X.w dLe) := by
  intro pins s σ H x y v u Q I rx ry ⟨G, dx, dy, b, hx, hy, hd, q⟩
  unfold dLe at hd
  split at hd
  · cases hd
    obtain rfl := hx.intE
    obtain rfl := hy.intE
    exact op_le pins s σ H _ _ v u Q I rx ry ⟨_, _, rfl, rfl, q⟩
  · cases hd
theorem op_geC : OpR X (compareOp .GtE) (rC2 X.w fun x y => dLe y x) := by
  intro pins s σ H x y v u Q I rx ry ⟨G, dx, dy, b, hx, hy, hd, q⟩
  dsimp only at hd
  unfold dLe at hd
  split at hd
  · cases hd
    obtain rfl := hx.intE
    obtain rfl := hy.intE
    exact op_ge pins s σ H _ _ v u Q I rx ry ⟨_, _, rfl, rfl, q⟩
  · cases hd
theorem shaped_items {ys : List D} : (SeqAt.shaped (.list ys) = true → PyData.canLayAll0 ys = true) ∧ (SeqAt.shaped (.tuple ys) = true → PyData.canLayAll0 ys = true) := by
  constructor
  · intro h
    have := SeqAt.canLay_of_shaped h
    simpa [PyData.canLay0] using this
  · intro h
    have := SeqAt.canLay_of_shaped h
    simpa [PyData.canLay0] using this
theorem op_inC (R : XR X) : OpR X (compareOp .In) (rC2 X.w dIn) := by
  intro pins s σ H x y v u Q I rx ry ⟨G, dx, dy, b, hx, hy, hd, q⟩
  unfold dIn at hd
  split at hd
  · split at hd
    · cases hd
      rename_i hc
      obtain ⟨as, ra⟩ := reads_of I hx rx
      obtain ⟨bs, rb⟩ := reads_of I hy ry
      exact SeqAt.in_list_reads rb ra (shaped_items.1 hc.2) (SeqAt.canLay_of_shaped hc.1) (room_in_shaped hc.1 (by have := R.un; omega)) ⟨.bl _, H, I, rfl, q⟩
    · cases hd
  · split at hd
    · cases hd
      rename_i hc
      obtain ⟨as, ra⟩ := reads_of I hx rx
      obtain ⟨bs, rb⟩ := reads_of I hy ry
      exact SeqAt.in_tuple_reads rb ra (shaped_items.2 hc.2) (SeqAt.canLay_of_shaped hc.1) (room_in_shaped hc.1 (by have := R.un; omega)) ⟨.bl _, H, I, rfl, q⟩
    · cases hd
  · split at hd
    · cases hd
      obtain rfl := hx.strE
      obtain rfl := hy.strE
      exact op_in_str pins s σ H _ _ v u Q I rx ry ⟨_, _, rfl, rfl, q⟩
    · cases hd
  · cases hd
theorem op_notinC (R : XR X) : OpR X (compareOp .NotIn) (rC2 X.w fun x y => (dIn x y).map (!·)) := by
  intro pins s σ H x y v u Q I rx ry ⟨G, dx, dy, b, hx, hy, hd, q⟩
  replace hd := map_some hd
  obtain ⟨b', hd, rfl⟩ := hd
  unfold dIn at hd
  split at hd
  · split at hd
    · cases hd
      rename_i hc
      obtain ⟨as, ra⟩ := reads_of I hx rx
      obtain ⟨bs, rb⟩ := reads_of I hy ry
      exact SeqAt.notIn_list_reads rb ra (shaped_items.1 hc.2) (SeqAt.canLay_of_shaped hc.1) (room_in_shaped hc.1 (by have := R.un; omega)) ⟨.bl _, H, I, rfl, q⟩
    · cases hd
  · split at hd
    · cases hd
      rename_i hc
      obtain ⟨as, ra⟩ := reads_of I hx rx
      obtain ⟨bs, rb⟩ := reads_of I hy ry
      exact SeqAt.notIn_tuple_reads rb ra (shaped_items.2 hc.2) (SeqAt.canLay_of_shaped hc.1) (room_in_shaped hc.1 (by have := R.un; omega)) ⟨.bl _, H, I, rfl, q⟩
    · cases hd
  · split at hd
    · cases hd
      obtain rfl := hx.strE
      obtain rfl := hy.strE
      exact op_notin_str pins s σ H _ _ v u Q I rx ry ⟨_, _, rfl, rfl, q⟩
    · cases hd
  · cases hd
def coOp : CO → CmpOp
  | .eq => .Eq
  | .ne => .NotEq
  | .lt => .Lt
  | .le => .LtE
  | .gt => .Gt
  | .ge => .GtE
  | .isin => .In
  | .notin => .NotIn
theorem op_cmpC (R : XR X) (o : CO) : OpR X (compareOp (coOp o)) (rC2 X.w (dCmp o)) := by
  cases o
  · exact op_eqC R
  · exact op_neC R
  · exact op_ltC
  · exact op_leC
  · exact op_gtC
  · exact op_geC
  · exact op_inC R
  · exact op_notinC R
def o2Op : O2 → Operator
  | .add => .Add
  | .sub => .Sub
  | .mul => .Mult
  | .fdiv => .FloorDiv
  | .mod => .Mod
  | .pow => .Pow
theorem op_o2D (o : O2) : OpR X (binaryOp (o2Op o)) (rD2 X.w (dOp o)) := by
  cases o
  · exact op_addD
  · exact op_subD
  · exact op_mulD
  · exact op_fdivD
  · exact op_modD
  · exact op_powD

theorem isEmpty_len {α β : Type} {xs : List α} {ys : List β} (h : xs.length = ys.length) : xs.isEmpty = ys.isEmpty := by
  cases xs <;> cases ys <;> simp_all
theorem tru_of {G : Addr → Prop} {H : Hp} {v : V} {d : D} {b : Bool} (r : Dat X.w G H v d) (h : tru d = some b) : TruV X.K v H b := by
  cases r with
  | none => cases h; rfl
  | bool c => cases h; rfl
  | int i => cases h; rfl
  | str x =>
    simp only [tru] at h
    split at h
    · cases h
      exact ⟨by assumption, rfl⟩
    · cases h
  | list g e r =>
    cases h
    exact .inl ⟨_, SqL.of e, by rw [isEmpty_len r.length]⟩
  | tup e n r =>
    cases h
    exact .inr (.inl ⟨_, SqT.fz e, by rw [isEmpty_len r.length]⟩)
  | dict _ _ _ _ _ => cases h

theorem none_iff {G : Addr → Prop} {H : Hp} {v : V} {d : D} (r : Dat X.w G H v d) : decide (v = .non) = isNone d := by
  cases r <;> rfl

theorem Dats.atI {w : World} {G : Addr → Prop} {H : Hp} {vs : List V} {ds : List D} {i : Int} {d : D} (r : Dats w G H vs ds) (h : L2.atI ds i = some d) : ∃ v, L2.atI vs i = some v ∧ Dat w G H v d := by
  unfold L2.atI at h ⊢
  rw [r.length]
  obtain ⟨j, h1, h2⟩ := bind_some h
  obtain ⟨v, h3, h4⟩ := r.get h2
  exact ⟨v, by rw [h1]; exact h3, h4⟩
theorem ix_D : IxR X (rD2 X.w dIdx) := by
  intro value slice pins s σ H x y v u Q I rx ry ⟨G, dx, dy, d, hx, hy, hd, q⟩ hs
  unfold dIdx at hd
  split at hd
  · obtain ⟨a, vs, rfl, _, e, r⟩ := hx.listE
    obtain rfl := hy.intE
    obtain ⟨z, h1, h2⟩ := r.atI hd
    exact ix_list value slice pins s σ H _ _ v u Q I rx ry ⟨_, _, _, _, rfl, rfl, SqL.of e, h1, q _ _ (Same.refl H) h2.weak⟩ hs
  · obtain ⟨a, o, vs, rfl, e, _, r⟩ := hx.tupE
    obtain rfl := hy.intE
    obtain ⟨z, h1, h2⟩ := r.atI hd
    exact ix_tup value slice pins s σ H _ _ v u Q I rx ry ⟨_, _, _, _, rfl, rfl, SqT.fz e, h1, q _ _ (Same.refl H) h2.weak⟩ hs
  · split at hd
    · obtain rfl := hx.strE
      obtain rfl := hy.intE
      obtain ⟨c, h1, rfl⟩ := map_some hd
      exact ix_str value slice pins s σ H _ _ v u Q I rx ry ⟨_, _, _, rfl, rfl, by assumption, h1, q _ _ (Same.refl H) (.str _)⟩ hs
    · cases hd
  · cases hd

theorem Dats.cut {w : World} {G : Addr → Prop} {H : Hp} {vs : List V} {ds : List D} (r : Dats w G H vs ds) (lo hi : Option Int) : Dats w G H (cutV vs lo hi) (cutD ds lo hi) := by
  unfold cutV cutD
  rw [r.length]
  exact (r.drop _).take _
theorem cutD_all {ds : List D} {lo hi : Option Int} (h : HT.sIx ds.length 0 lo = 0 ∧ HT.sIx ds.length ds.length hi = ds.length) : cutD ds lo hi = ds := by
  unfold cutD
  rw [h.1, h.2]
  simp
def rSD (w : World) : V → Option Int → Option Int → Hp → VK → Prop := fun x lo hi H Q => ∃ G dx d, Dat w G H x dx ∧ dSlc dx lo hi = some d ∧ ∀ v H', Same H H' → Dat w (Up G H) H' v d → Q v H'
theorem sl_D : SlR X (rSD X.w) := by
  intro pins s σ H x v vl vu lo hi sl Q I rx hs pl pu ⟨G, dx, d, hx, hd, q⟩
  unfold dSlc at hd
  split at hd
  · cases hd
    obtain ⟨a, vs, rfl, _, e, r⟩ := hx.listE
    exact sl_list pins s σ H _ v vl vu _ _ sl Q I rx hs pl pu ⟨_, _, rfl, SqL.of e, fun p hp => q _ _ (same_new hp) (Dat.newL hp (r.cut _ _))⟩
  · cases hd
    obtain ⟨a, o, vs, rfl, e, _, r⟩ := hx.tupE
    refine sl_tupF pins s σ H _ v vl vu _ _ sl Q I rx hs pl pu ⟨_, _, rfl, SqT.fz e, fun z => ?_, fun _ p o hp ho => q _ _ (same_new hp) (Dat.newT hp ho (r.cut _ _))⟩
    rw [r.length] at z
    rw [cutD_all z] at q
    exact q _ _ (Same.refl H) hx.weak
  · split at hd
    · cases hd
      obtain rfl := hx.strE
      exact sl_str pins s σ H _ v vl vu _ _ sl Q I rx hs pl pu ⟨_, rfl, by assumption, q _ _ (Same.refl H) (.str _)⟩
    · cases hd
  · cases hd

theorem ints_of {w : World} {G : Addr → Prop} {H : Hp} : ∀ {vs : List V} {ds : List D} {ns : List Int}, Dats w G H vs ds → intsOf ds = some ns → vs = ns.map V.int
  | _, _, _, .nil, h => by
    cases h
    rfl
  | _, _, _, .cons r t, h => by
    cases r with
    | int i =>
      obtain ⟨ms, h1, rfl⟩ := map_some h
      rw [ints_of t h1]
      rfl
    | none => cases h
    | bool _ => cases h
    | str _ => cases h
    | list _ _ _ => cases h
    | tup _ _ _ => cases h
    | dict _ _ _ _ _ => cases h
theorem bools_of {w : World} {G : Addr → Prop} {H : Hp} : ∀ {vs : List V} {ds : List D} {ns : List Bool}, Dats w G H vs ds → boolsOf ds = some ns → vs = ns.map V.bl
  | _, _, _, .nil, h => by
    cases h
    rfl
  | _, _, _, .cons r t, h => by
    cases r with
    | bool i =>
      obtain ⟨ms, h1, rfl⟩ := map_some h
      rw [bools_of t h1]
      rfl
    | none => cases h
    | int _ => cases h
    | str _ => cases h
    | list _ _ _ => cases h
    | tup _ _ _ => cases h
    | dict _ _ _ _ _ => cases h
theorem strs_of {w : World} {G : Addr → Prop} {H : Hp} : ∀ {vs : List V} {ds : List D} {ns : List Str}, Dats w G H vs ds → strsOf ds = some ns → vs = ns.map V.str
  | _, _, _, .nil, h => by
    cases h
    rfl
  | _, _, _, .cons r t, h => by
    cases r with
    | str i =>
      obtain ⟨ms, h1, rfl⟩ := map_some h
      rw [strs_of t h1]
      rfl
    | none => cases h
    | int _ => cases h
    | bool _ => cases h
    | list _ _ _ => cases h
    | tup _ _ _ => cases h
    | dict _ _ _ _ _ => cases h

/-! ### sorted -/
theorem each_of {w : World} {G : Addr → Prop} {H : Hp} : ∀ {vs : List V} {ds : List D} {us : List Value}, Dats w G H vs ds → Vals vs us → PySem.W.EachIs (fun u d => ∃ v, RelV v u ∧ Dat w G H v d) us ds
  | _, _, _, .nil, q => by
    cases q
    exact .nil
  | _, _, _, .cons r t, q => by
    cases q with
    | cons q1 q2 => exact .cons ⟨_, q1, r⟩ (each_of t q2)
theorem of_each {w : World} {G : Addr → Prop} {H : Hp} : ∀ {us : List Value} {ds : List D}, PySem.W.EachIs (fun u d => ∃ v, RelV v u ∧ Dat w G H v d) us ds → ∃ vs, Vals vs us ∧ Dats w G H vs ds
  | _, _, .nil => ⟨[], .nil, .nil⟩
  | _, _, .cons ⟨v, r, q⟩ t => by
    obtain ⟨vs, h1, h2⟩ := of_each t
    exact ⟨v :: vs, .cons r h1, .cons q h2⟩
theorem call_sortedO (R : XR X) : CallR X (.builtin "sorted") (fun xs H Q => ∃ x, xs = [x] ∧ ∃ G ds bs, Dat X.w G H x (.list ds) ∧ dSorted ds = some bs ∧ ∀ p vs, H p = none → Dats X.w G H vs bs → Q (.ref p) (upd H p (.lst vs))) := by
  intro pins s σ H xs us Q I r ⟨x, ex, G, ds, bs, hx, hd, q⟩
  subst ex
  obtain ⟨u, rfl, rx⟩ := vals1 r
  unfold dSorted at hd
  split at hd
  · cases hd
    rename_i hc
    obtain ⟨hc, hz⟩ := hc
    unfold alikeL at hc
    rw [Bool.and_eq_true, Bool.and_eq_true] at hc
    obtain ⟨⟨ha, hs⟩, hdp⟩ := hc
    obtain ⟨a, vs, rfl, _, e, rd⟩ := hx.listE
    cases rx
    obtain ⟨_, its, n, rv, eo⟩ := I.hok _ _ e
    have ea := each_of rd rv
    have hR : PySem.W.EachIs (fun u b => ∃ as, Reads s.heap u (id b) as) its ds := ea.mono fun u b ⟨v, r1, r2⟩ => r2.reads I.hok r1
    have hal : PySem.W.AllAlike (ds.map id) := by
      rw [List.map_id]
      intro d h1 d' h2
      rw [List.all_eq_true] at ha
      have := ha d h1
      rw [List.all_eq_true] at this
      exact this d' h2
    have hk : PySem.W.Sortable (ds.map id) := by
      rw [List.map_id]
      rw [Bool.or_eq_true] at hs
      rcases hs with hs | hs
      · rw [List.all_eq_true] at hs
        refine .inl fun d hd => ?_
        have := hs d hd
        split at this
        · exact ⟨_, _, rfl⟩
        · cases this
      · rw [List.all_eq_true] at hs
        refine .inr fun d hd => ?_
        have := hs d hd
        split at this
        · cases this
        · cases this
        · rename_i h1 h2
          exact ⟨h1, fun xs => h2 xs⟩
    refine PySem.W.sorted_data (enc := id) ⟨_, eo, rfl, n, rfl⟩ ea hR hal hk hz (fun b hb => ?_) fun out ho eo' => ?_
    · rw [List.all_eq_true] at hdp
      have := of_decide_eq_true (hdp b hb)
      have := R.un
      show X.A.units + 2 + PyData.depth b < cLine
      omega
    · obtain ⟨ws, h1, h2⟩ := of_each eo'
      obtain ⟨c, hc⟩ := sortedAll_at s.heap its out.toArray
      have hf : H (s.heap.objs.size + 1) = none := I.hok.fresh (Nat.le_succ _)
      refine ⟨.ref (s.heap.objs.size + 1), upd H (s.heap.objs.size + 1) (.lst ws), I.laid (t' := s.toks) (fun b u e => sortedAll_old e) (Nat.le_succ _) ?_, rfl, q _ _ hf h2⟩
      exact ⟨by rw [h1.length, ho]; exact hz, out, c, h1, hc⟩
  · cases hd

/-! ### repr -/
theorem call_reprO (R : XR X) : CallR X (.builtin "repr") (rB1 X.w dRepr) := by
  intro pins s σ H xs us Q I r ⟨x, ex, G, dx, d, hx, hd, q⟩
  subst ex
  obtain ⟨u, rfl, rx⟩ := vals1 r
  unfold dRepr at hd
  split at hd
  · cases hd
    rename_i hc
    obtain ⟨h1, h2, h3, h4⟩ := hc
    have qq : Q (.str dx.shown) H := q _ _ (Same.refl H) (.str _)
    obtain ⟨as, ra⟩ := reads_of I hx rx
    have hu : X.A.units + (dx.depth + 1) < cLine := by have := R.un; omega
    cases ra with
    | none => exact PySem.P.repr_of_none ⟨.str _, H, I.tok _, ⟨_, rfl⟩, by simpa only [PyData.shown] using qq⟩
    | bool b => exact PySem.P.repr_of_bool ⟨.str _, H, I.tok _, ⟨_, rfl⟩, by simpa only [PyData.shown] using qq⟩
    | int i t => exact PySem.P.repr_of_int (by simpa [PyData.showable] using h1) ⟨.str _, H, I.tok _, ⟨_, rfl⟩, by simpa only [PyData.shown] using qq⟩
    | str z t => exact PySem.P.repr_of_str ⟨.str _, H, I.tok _, ⟨_, rfl⟩, by simpa only [PyData.shown] using qq⟩ (by simpa only [PyData.shown] using h4)
    | list a1 a2 a3 a4 => exact repr_of_reads' (.list a1 a2 a3 a4) h1 (PyData.noDict_hsm h2) R.gd hu (fun _ _ e => e) (fun h' u tk hk => ⟨.str _, H, I.kept hk, ⟨_, rfl⟩, qq⟩) h4
    | tuple a1 a2 a3 a4 => exact repr_of_reads' (.tuple a1 a2 a3 a4) h1 (PyData.noDict_hsm h2) R.gd hu (fun _ _ e => e) (fun h' u tk hk => ⟨.str _, H, I.kept hk, ⟨_, rfl⟩, qq⟩) h4
    | dict a1 a2 a3 a4 a5 => simp [PyData.hasDict] at h2
  · cases hd
end
end Os
end
section
set_option linter.all false
set_option maxRecDepth 100000
set_option maxHeartbeats 4000000
/-! OsE: further built-ins by data; the names of built-ins. -/
namespace Os
open PySem PySem.Spec PyProof.Rows L2

def b1V : B1 → Value
  | .len => .builtin "len"
  | .tuple => .type "tuple"
  | .list => .type "list"
  | .sorted => .builtin "sorted"
  | .repr => .builtin "repr"
  | .int => .type "int"
  | .abs => .builtin "abs"
  | .sum => .builtin "sum"
  | .all => .builtin "all"
  | .any => .builtin "any"
def b1N : B1 → Str
  | .len => "len"
  | .tuple => "tuple"
  | .list => "list"
  | .sorted => "sorted"
  | .repr => "repr"
  | .int => "int"
  | .abs => "abs"
  | .sum => "sum"
  | .all => "all"
  | .any => "any"
def b2V : B2 → Value
  | .max => .builtin "max"
  | .min => .builtin "min"
def b2N : B2 → Str
  | .max => "max"
  | .min => "min"
def tyN : TY → Str
  | .int => "int"
  | .bool => "bool"
  | .str => "str"
  | .tuple => "tuple"
  | .list => "list"
  | .dict => "dict"
def tyS : TY → String
  | .int => "int"
  | .bool => "bool"
  | .str => "str"
  | .tuple => "tuple"
  | .list => "list"
  | .dict => "dict"
/-- the built-ins that may be asked -/
def bNames : List Str := ["len", "tuple", "list", "sorted", "repr", "int", "abs", "sum", "all", "any", "max", "min", "bool", "str", "dict", "isinstance", "range", "enumerate", "zip"]
theorem b1_mem (f : B1) : b1N f ∈ bNames := by cases f <;> decide +kernel
theorem b2_mem (f : B2) : b2N f ∈ bNames := by cases f <;> decide +kernel
theorem ty_mem (f : TY) : tyN f ∈ bNames := by cases f <;> decide +kernel
theorem b1_boot (f : B1) : bootBuiltins (b1N f) = some (b1V f) := by cases f <;> rfl
theorem b2_boot (f : B2) : bootBuiltins (b2N f) = some (b2V f) := by cases f <;> rfl
theorem ty_boot (f : TY) : bootBuiltins (tyN f) = some (.type (tyS f)) := by cases f <;> rfl
theorem b1_nn (f : B1) : b1N f ≠ "__name__" := by cases f <;> decide +kernel
theorem b2_nn (f : B2) : b2N f ≠ "__name__" := by cases f <;> decide +kernel
theorem ty_nn (f : TY) : tyN f ≠ "__name__" := by cases f <;> decide +kernel
theorem b1_nd (f : B1) : (b1N f == ("__debug__" : Str)) = false := by cases f <;> decide +kernel
theorem b2_nd (f : B2) : (b2N f == ("__debug__" : Str)) = false := by cases f <;> decide +kernel
theorem ty_nd (f : TY) : (tyN f == ("__debug__" : Str)) = false := by cases f <;> decide +kernel

section
variable {X : Cx}
theorem call_lenO : CallR X (.builtin "len") (rB1 X.w (dB1 .len)) := by
  intro pins s σ H xs us Q I r ⟨x, ex, G, dx, d, hx, hd, q⟩
  subst ex
  cases hx with
  | list g e r' =>
    cases hd
    exact call_len pins s σ H _ us Q I r ⟨_, _, rfl, .inl ⟨_, SqL.of e, rfl⟩, by rw [r'.length]; exact q _ _ (Same.refl H) (.int _)⟩
  | tup e n r' =>
    cases hd
    exact call_len pins s σ H _ us Q I r ⟨_, _, rfl, .inr ⟨_, SqT.fz e, rfl⟩, by rw [r'.length]; exact q _ _ (Same.refl H) (.int _)⟩
  | str z =>
    simp only [dB1] at hd
    split at hd
    · cases hd
      exact call_len pins s σ H _ us Q I r ⟨_, _, rfl, ⟨by assumption, rfl⟩, q _ _ (Same.refl H) (.int _)⟩
    · cases hd
  | _ => cases hd
theorem call_tupleO : CallR X (.type "tuple") (rB1 X.w (dB1 .tuple)) := by
  intro pins s σ H xs us Q I r ⟨x, ex, G, dx, d, hx, hd, q⟩
  subst ex
  cases hx with
  | list g e r' =>
    cases hd
    exact call_tupleF pins s σ H _ us Q I r ⟨_, _, rfl, .inl ⟨SqL.of e, fun p o hp ho => q _ _ (same_new hp) (Dat.newT hp ho r')⟩⟩
  | tup e n r' =>
    cases hd
    exact call_tupleF pins s σ H _ us Q I r ⟨_, _, rfl, .inr ⟨SqT.fz e, q _ _ (Same.refl H) (Dat.weak (.tup e n r'))⟩⟩
  | _ => cases hd
theorem call_listO : CallR X (.type "list") (fun xs H Q => ∃ x, xs = [x] ∧ ∃ G dx ds, Dat X.w G H x dx ∧ seqOf dx = some ds ∧ ∀ p vs, H p = none → Dats X.w G H vs ds → Q (.ref p) (upd H p (.lst vs))) := by
  intro pins s σ H xs us Q I r ⟨x, ex, G, dx, ds, hx, hd, q⟩
  subst ex
  cases hx with
  | list g e r' =>
    cases hd
    exact call_list_of pins s σ H _ us Q I r ⟨_, _, rfl, .inl (SqL.of e), fun p hp => q p _ hp r'⟩
  | tup e n r' =>
    cases hd
    exact call_list_of pins s σ H _ us Q I r ⟨_, _, rfl, .inr (SqT.fz e), fun p hp => q p _ hp r'⟩
  | _ => cases hd
theorem call_intO : CallR X (.type "int") (rB1 X.w (dB1 .int)) := by
  intro pins s σ H xs us Q I r ⟨x, ex, G, dx, d, hx, hd, q⟩
  subst ex
  cases hx with
  | int i =>
    cases hd
    exact call_int1 pins s σ H _ us Q I r (.inl ⟨_, rfl, q _ _ (Same.refl H) (.int _)⟩)
  | bool i =>
    cases hd
    exact call_int1 pins s σ H _ us Q I r (.inr ⟨_, rfl, q _ _ (Same.refl H) (.int _)⟩)
  | _ => cases hd
theorem call_absO : CallR X (.builtin "abs") (rB1 X.w (dB1 .abs)) := by
  intro pins s σ H xs us Q I r ⟨x, ex, G, dx, d, hx, hd, q⟩
  subst ex
  cases hx with
  | int i =>
    cases hd
    exact call_abs pins s σ H _ us Q I r ⟨_, rfl, q _ _ (Same.refl H) (.int _)⟩
  | _ => cases hd
theorem call_sumO (R : XR X) : CallR X (.builtin "sum") (rB1 X.w (dB1 .sum)) := by
  intro pins s σ H xs us Q I r ⟨x, ex, G, dx, d, hx, hd, q⟩
  subst ex
  cases hx with
  | list g e r' =>
    obtain ⟨ns, h1, rfl⟩ := map_some hd
    have ev := ints_of r' h1
    subst ev
    exact cr_sum R.calm pins s σ H _ us Q I r ⟨_, ns, rfl, SqL.of e, q _ _ (Same.refl H) (.int _)⟩
  | _ => cases hd
theorem call_allO (R : XR X) : CallR X (.builtin "all") (rB1 X.w (dB1 .all)) := by
  intro pins s σ H xs us Q I r ⟨x, ex, G, dx, d, hx, hd, q⟩
  subst ex
  cases hx with
  | list g e r' =>
    obtain ⟨ns, h1, rfl⟩ := map_some hd
    have ev := bools_of r' h1
    subst ev
    exact cr_all R.calm pins s σ H _ us Q I r ⟨_, ns, rfl, SqL.of e, q _ _ (Same.refl H) (.bool _)⟩
  | _ => cases hd
theorem call_anyO (R : XR X) : CallR X (.builtin "any") (rB1 X.w (dB1 .any)) := by
  intro pins s σ H xs us Q I r ⟨x, ex, G, dx, d, hx, hd, q⟩
  subst ex
  cases hx with
  | list g e r' =>
    obtain ⟨ns, h1, rfl⟩ := map_some hd
    have ev := bools_of r' h1
    subst ev
    exact cr_any R.calm pins s σ H _ us Q I r ⟨_, ns, rfl, SqL.of e, q _ _ (Same.refl H) (.bool _)⟩
  | _ => cases hd
/-- any built-in of one argument: a list that it gives is new -/
def rB1N (w : World) (f : B1) : List V → Hp → VK → Prop := fun xs H Q => ∃ x, xs = [x] ∧ ∃ G dx d, Dat w G H x dx ∧ dB1 f dx = some d ∧ ∀ v H', Same H H' → Dat w (Up G H) H' v d → ((f = .list ∨ f = .sorted) → NewL w G H H' v d) → Q v H'
theorem call_b1 (R : XR X) (f : B1) : CallR X (b1V f) (rB1N X.w f) := by
  intro pins s σ H xs us Q I r ⟨x, ex, G, dx, d, hx, hd, q⟩
  cases f
  case list =>
    have hs : ∃ ds, seqOf dx = some ds ∧ d = .list ds := by
      cases dx <;> first | cases hd | skip
      · exact ⟨_, rfl, rfl⟩
      · exact ⟨_, rfl, rfl⟩
    obtain ⟨ds, h1, rfl⟩ := hs
    exact call_listO pins s σ H xs us Q I r ⟨x, ex, G, dx, ds, hx, h1, fun p vs hp rv => q _ _ (same_new hp) (Dat.newL hp rv) fun _ => NewL.mk hp rv⟩
  case sorted =>
    obtain ⟨ds, rfl⟩ : ∃ ds, dx = .list ds := by
      cases dx <;> first | exact ⟨_, rfl⟩ | cases hd
    replace hd := map_some (show (dSorted ds).map PyData.list = some d from hd)
    obtain ⟨bs, hd, rfl⟩ := hd
    exact call_sortedO R pins s σ H xs us Q I r ⟨x, ex, G, ds, bs, hx, hd, fun p vs hp rv => q _ _ (same_new hp) (Dat.newL hp rv) fun _ => NewL.mk hp rv⟩
  case len => exact call_lenO pins s σ H xs us Q I r ⟨x, ex, G, dx, d, hx, hd, fun v H' k dd => q v H' k dd fun z => by rcases z with z | z <;> cases z⟩
  case tuple => exact call_tupleO pins s σ H xs us Q I r ⟨x, ex, G, dx, d, hx, hd, fun v H' k dd => q v H' k dd fun z => by rcases z with z | z <;> cases z⟩
  case repr => exact call_reprO R pins s σ H xs us Q I r ⟨x, ex, G, dx, d, hx, hd, fun v H' k dd => q v H' k dd fun z => by rcases z with z | z <;> cases z⟩
  case int => exact call_intO pins s σ H xs us Q I r ⟨x, ex, G, dx, d, hx, hd, fun v H' k dd => q v H' k dd fun z => by rcases z with z | z <;> cases z⟩
  case abs => exact call_absO pins s σ H xs us Q I r ⟨x, ex, G, dx, d, hx, hd, fun v H' k dd => q v H' k dd fun z => by rcases z with z | z <;> cases z⟩
  case sum => exact call_sumO R pins s σ H xs us Q I r ⟨x, ex, G, dx, d, hx, hd, fun v H' k dd => q v H' k dd fun z => by rcases z with z | z <;> cases z⟩
  case all => exact call_allO R pins s σ H xs us Q I r ⟨x, ex, G, dx, d, hx, hd, fun v H' k dd => q v H' k dd fun z => by rcases z with z | z <;> cases z⟩
  case any => exact call_anyO R pins s σ H xs us Q I r ⟨x, ex, G, dx, d, hx, hd, fun v H' k dd => q v H' k dd fun z => by rcases z with z | z <;> cases z⟩

def rB2 (w : World) (f : B2) : List V → Hp → VK → Prop := fun xs H Q => ∃ x y, xs = [x, y] ∧ rD2 w (dB2 f) x y H Q
theorem call_b2 (R : XR X) (f : B2) : CallR X (b2V f) (rB2 X.w f) := by
  intro pins s σ H xs us Q I r ⟨x, y, ex, G, dx, dy, d, hx, hy, hd, q⟩
  subst ex
  unfold dB2 at hd
  split at hd
  · cases hd
    obtain rfl := hx.intE
    obtain rfl := hy.intE
    exact call_max2 R.calm pins s σ H _ us Q I r ⟨_, _, rfl, q _ _ (Same.refl H) (.int _)⟩
  · cases hd
    obtain rfl := hx.intE
    obtain rfl := hy.intE
    exact call_min2 R.calm pins s σ H _ us Q I r ⟨_, _, rfl, q _ _ (Same.refl H) (.int _)⟩
  · cases hd

/-! ### isinstance -/
def dTy : D → String
  | .none => "NoneType"
  | .bool _ => "bool"
  | .int _ => "int"
  | .str _ => "str"
  | .list _ => "list"
  | .tuple _ => "tuple"
  | .dict _ => "dict"
theorem kit_d (t : TY) : ∀ d : D, kitB (dTy d) (tyS t) = some (isTy t d)
  | .none => by cases t <;> rfl
  | .bool _ => by cases t <;> rfl
  | .int _ => by cases t <;> rfl
  | .str _ => by cases t <;> rfl
  | .list _ => by cases t <;> rfl
  | .tuple _ => by cases t <;> rfl
  | .dict _ => by cases t <;> rfl
theorem kit_of_dat {pins : List (Addr × Obj)} {σ : L2.St} {H : Hp} {s : Shared} {G : Addr → Prop} {v : V} {u : Value} {d : D} (I : Inv X pins σ H s) (r : Dat X.w G H v d) (rx : RelV v u) :
    ∃ P : Heap → Prop, PySem.W.KitX X.K u (.type (dTy d)) P ∧ P s.heap ∧ u ≠ .builtin "__main__.__loader__#opaque" := by
  cases r with
  | none => exact kit_of I rx (.base .non)
  | bool b => exact kit_of I rx (.base (.bl b))
  | int i => exact kit_of I rx (.base (.int i))
  | str x => exact kit_of I rx (.base (.str x))
  | list g e r => exact kit_of I rx (.base (.lst e))
  | tup e n r => exact kit_of I rx (.fTuple e)
  | dict g e r q k =>
    cases rx
    obtain ⟨⟨_, _, o, ds, ep, eo, ed, dd, pr, _⟩, _, _⟩ := I.hok _ _ e
    exact ⟨_, PySem.W.kitx_dict, ⟨o, eo, ed.1⟩, fun z => nomatch z⟩
theorem call_isiO (t : TY) : CallR X (.builtin "isinstance") (fun xs H Q => ∃ x G d, xs = [x, .ty (tyS t)] ∧ Dat X.w G H x d ∧ Q (.bl (isTy t d)) H) := by
  intro pins s σ H xs us Q I r h
  obtain ⟨x, G, d, rfl, hx, q⟩ := h
  obtain ⟨u1, u2, rfl, r1, r2⟩ := vals2 r
  cases (show u2 = Value.type (tyS t) from r2)
  obtain ⟨P, Z, p, hn⟩ := kit_of_dat I hx r1
  exact PySem.W.kia_one Z I.kIn p (kit_ty (kit_d t d)) hn fun tk => ⟨.bl _, H, I.tok tk, rfl, q⟩

/-! ### t.index(x) -/
theorem mt_indexO (R : XR X) : MtR X "tuple.index" (fun x xs H Q => ∃ y, xs = [y] ∧ rD2 X.w dIndex x y H Q) := by
  intro pins s σ H x xs v us Q I rx rs ⟨y, ex, G, dx, dy, d, hx, hy, hd, q⟩
  subst ex
  obtain ⟨u, rfl, ry⟩ := vals1 rs
  unfold dIndex at hd
  split at hd
  · rename_i ds dz
    split at hd
    · rename_i ks k h1 h2
      split at hd
      · rename_i hc
        cases hd
        obtain ⟨a, o, vs, rfl, e, _, rd⟩ := hx.tupE
        cases rx
        obtain ⟨_, _, its, rv, o2, eo, c, n, dd⟩ := I.hok _ _ e
        have ht : s.heap.IsTuple a its.toArray := ⟨o2, eo, c, n, dd⟩
        refine PySem.SeqAt.call_tuple_index ht (PySem.SeqAt.ItemsEq.nested (Dats.nested I.hok rd rv h1) (Dat.nested I.hok hy ry h2) ?_) hc.1 ⟨.int _, H, I.tok _, ⟨_, rfl⟩, q _ _ (Same.refl H) (.int _)⟩
        have := R.un
        have := hc.2
        show X.A.units + 1 + k.depth < cLine
        omega
      · cases hd
    · cases hd
  · cases hd
end
end Os
end
section
set_option linter.all false
set_option maxRecDepth 100000
set_option maxHeartbeats 4000000
/-! OsF: defs by what they do; how the program's text and the small language's go together. -/
namespace Os
open PySem PySem.Spec PyProof.Rows L2

structure RoomG (k : Nat) (A : Around) : Prop where
  r : Room k A
  gd : A.guards = some []
/-- a def's promise where no repr runs -/
structure FnG (P : Program) (w : World) (K : PySem.W.Frag) (mg : Str → Option Value) (base : Heap) (k : Nat) (f : Addr) (fd : FuncData) (ps : List Str) (sp : Sp) : Prop where
  size : ∀ vs H Q E, sp vs H Q E → vs.length = ps.length
  go : ∀ (A : Around) (outer : List Env) (s : Shared) (H : Hp) (args : Args) (us : List Value) (vs : List V) (Q : VK) (E : XK), RoomG k A → Env0 P w K mg base A outer s H → BindsTo s fd args (ps.zip us) → Vals vs us → sp vs H Q E →
    codeAny (model P w) A (.call (.ref f) args) (CR CX0 outer P w H s Q E) s
theorem FnG.of {P : Program} {w : World} {K : PySem.W.Frag} {mg : Str → Option Value} {base : Heap} {k : Nat} {f : Addr} {fd : FuncData} {ps : List Str} {sp : Sp} (F : FnOk P w K mg base CX0 k f fd ps sp) : FnG P w K mg base k f fd ps sp :=
  ⟨F.len, fun A outer s H args us vs Q E hr => F.run A outer s H args us vs Q E hr.r⟩
theorem FnG.up {P : Program} {w : World} {K : PySem.W.Frag} {mg : Str → Option Value} {base : Heap} {j k : Nat} {f : Addr} {fd : FuncData} {ps : List Str} {sp : Sp} (F : FnG P w K mg base j f fd ps sp) (h : j ≤ k) : FnG P w K mg base k f fd ps sp :=
  ⟨F.size, fun A outer s H args us vs Q E hr => F.go A outer s H args us vs Q E ⟨hr.r.mono h, hr.gd⟩⟩
theorem FnG.imp {P : Program} {w : World} {K : PySem.W.Frag} {mg : Str → Option Value} {base : Heap} {k : Nat} {f : Addr} {fd : FuncData} {ps : List Str} {sp sp' : Sp} (F : FnG P w K mg base k f fd ps sp) (h : ∀ vs H Q E, sp' vs H Q E → sp vs H Q E) :
    FnG P w K mg base k f fd ps sp' := ⟨fun vs H Q E q => F.size vs H Q E (h _ _ _ _ q), fun A outer s H args us vs Q E hr he hb hv hs => F.go A outer s H args us vs Q E hr he hb hv (h _ _ _ _ hs)⟩

/-- arguments -/
inductive AR (w : World) (g : Option (Addr × Addr)) (G : Addr → Prop) (H : Hp) : List V → List SL → Prop
  | nil : AR w g G H [] []
  | cons {v : V} {x : D} {vs : List V} {as : List SL} : Dat w G H v x → AR w g G H vs as → AR w g G H (v :: vs) (.d x :: as)
  | src {a c : Addr} {vs : List V} {as : List SL} : g = some (a, c) → AR w g G H vs as → AR w g G H (.ref a :: vs) (.src :: as)
theorem AR.length {w : World} {g : Option (Addr × Addr)} {G : Addr → Prop} {H : Hp} : ∀ {vs : List V} {as : List SL}, AR w g G H vs as → vs.length = as.length
  | _, _, .nil => rfl
  | _, _, .cons _ t => by simp [AR.length t]
  | _, _, .src _ t => by simp [AR.length t]
theorem AR.keep {w : World} {g : Option (Addr × Addr)} {G G' : Addr → Prop} {H H' : Hp} (f : ∀ v x, Dat w G H v x → Dat w G' H' v x) : ∀ {vs : List V} {as : List SL}, AR w g G H vs as → AR w g G' H' vs as
  | _, _, .nil => .nil
  | _, _, .cons r t => .cons (f _ _ r) (AR.keep f t)
  | _, _, .src e t => .src e (AR.keep f t)

/-- what a def of the list promises -/
def spF (w : World) (F : FE) : Sp := fun vs H Q _ => ∃ g G as s d s', (∀ b, G b → ¬ Own2 g b) ∧ SrcR g H s ∧ AR w g G H vs as ∧ as.length = F.ar ∧ F.sem as s = some (d, s') ∧
  ∀ v H', Ps w g G H H' v d s' → (F.fresh = true → NewL w G H H' v d) → Q v H'

/-- a text's constant is what it is, anywhere -/
def leafV : V → D → Prop
  | .non, .none => True
  | .bl b, .bool c => b = c
  | .int i, .int j => i = j
  | .str x, .str y => x = y
  | _, _ => False
theorem leafV.dat {w : World} {G : Addr → Prop} {H : Hp} : ∀ {v : V} {d : D}, leafV v d → Dat w G H v d
  | .non, .none, _ => .none
  | .bl _, .bool _, h => by cases h; exact .bool _
  | .int _, .int _, h => by cases h; exact .int _
  | .str _, .str _, h => by cases h; exact .str _

/-- what a context knows of the module -/
structure XC (X : Cx) (Φ : List FE) (gk : List (Str × D)) (k : Nat) : Prop where
  calm : X.calm = true
  rm : RoomG k X.A
  nd : X.N.Nodup
  bl : ∀ x ∈ bNames, X.mg x = none
  fns : ∀ F ∈ Φ, ∃ f fd ps, X.mg F.name = some (.ref f) ∧ PySem.W.keepIn X.K (.ref f) = true ∧ Binds X.K fd ps [] ∧ ps.length = F.ar ∧ FnG X.prog X.w X.K X.mg X.base k f fd ps (spF X.w F)
  gks : ∀ p ∈ gk, ∃ u v, X.mg p.1 = some u ∧ RelV v u ∧ leafV v p.2
theorem XC.xr {X : Cx} {Φ : List FE} {gk : List (Str × D)} {k : Nat} (C : XC X Φ gk k) : XR X := ⟨C.calm, by have := C.rm.r.un; omega, C.rm.gd⟩
theorem XC.blk {X : Cx} {Φ : List FE} {gk : List (Str × D)} {k : Nat} (C : XC X Φ gk k) {s : Shared} {H : Hp} {scope : Scope} {cenv : Env} {fp : List Addr} : XC (X.blk s H scope cenv fp) Φ gk k :=
  ⟨C.calm, C.rm, C.nd, C.bl, C.fns, C.gks⟩

def coB : BoolOp → ME → ME → ME
  | .And => ME.and_
  | .Or => ME.or_

def isTup : Expr → Bool
  | .Tuple _ _ _ => true
  | _ => false

/-- targets -/
inductive TrT (N : List Str) (fn : Str → Bool) (sc : Scope) : Expr → MT → Prop
  | nm {i : Nat} {x : Str} {pos : Pos} : N[i]? = some x → Loc sc x → (fn x = true ∨ sc.names.lookup x = some .local) → TrT N fn sc (.Name x pos) (.nm i)
  | two {a b : Expr} {p q : MT} {k : Nat} {pos : Pos} : TrT N fn sc a p → TrT N fn sc b q → TrT N fn sc (.Tuple [a, b] k pos) (.two p q)
  | three {a b c : Expr} {p q r : MT} {k : Nat} {pos : Pos} : TrT N fn sc a p → TrT N fn sc b q → TrT N fn sc c r → TrT N fn sc (.Tuple [a, b, c] k pos) (.three p q r)
  | four {a b c d : Expr} {p q r t : MT} {k : Nat} {pos : Pos} : TrT N fn sc a p → TrT N fn sc b q → TrT N fn sc c r → TrT N fn sc d t → TrT N fn sc (.Tuple [a, b, c, d] k pos) (.four p q r t)

mutual
inductive TrE (Φ : List FE) (gk : List (Str × D)) : List Str → Scope → Expr → ME → Prop
  | nm {N : List Str} {sc : Scope} {i : Nat} {x : Str} {pos : Pos} : N[i]? = some x → Vis sc x → (x == ("__debug__" : Str)) = false → (x == ("__classdict__" : Str)) = false → TrE Φ gk N sc (.Name x pos) (.nm i)
  | gl {N : List Str} {sc : Scope} {x : Str} {d : D} {pos : Pos} : sc.names.lookup x = some .globalImplicit → (x, d) ∈ gk → (x == ("__debug__" : Str)) = false → TrE Φ gk N sc (.Name x pos) (.k d)
  | ci {N : List Str} {sc : Scope} {i : Int} {j : Nat} {pos : Pos} : TrE Φ gk N sc (.Constant (.int i) j pos) (.k (.int i))
  | cb {N : List Str} {sc : Scope} {b : Bool} {j : Nat} {pos : Pos} : TrE Φ gk N sc (.Constant (.bool b) j pos) (.k (.bool b))
  | cn {N : List Str} {sc : Scope} {j : Nat} {pos : Pos} : TrE Φ gk N sc (.Constant .none j pos) (.k .none)
  | cs {N : List Str} {sc : Scope} {x : Str} {j : Nat} {pos : Pos} : TrE Φ gk N sc (.Constant (.str x) j pos) (.k (.str x))
  | tup {N : List Str} {sc : Scope} {es : List Expr} {ms : MEs} {x1 : Nat} {pos : Pos} : TrEs Φ gk N sc es ms → TrE Φ gk N sc (.Tuple es x1 pos) (.tup ms)
  | lst {N : List Str} {sc : Scope} {es : List Expr} {ms : MEs} {pos : Pos} : TrEs Φ gk N sc es ms → TrE Φ gk N sc (.List es pos) (.lst ms)
  | op {N : List Str} {sc : Scope} (o : O2) {a b : Expr} {p q : ME} {pos : Pos} : TrE Φ gk N sc a p → TrE Φ gk N sc b q → TrE Φ gk N sc (.BinOp a (o2Op o) b pos) (.op o p q)
  | neg {N : List Str} {sc : Scope} {a : Expr} {p : ME} {pos : Pos} : TrE Φ gk N sc a p → TrE Φ gk N sc (.UnaryOp .USub a pos) (.neg p)
  | cmp {N : List Str} {sc : Scope} (o : CO) {a b : Expr} {p q : ME} {pos : Pos} : TrE Φ gk N sc a p → TrE Φ gk N sc b q → behindInMarks (coOp o) b = false → TrE Φ gk N sc (.Compare a [coOp o] [b] pos) (.cmp o p q)
  | isN {N : List Str} {sc : Scope} {a : Expr} {p : ME} {j : Nat} {pos pos' : Pos} : TrE Φ gk N sc a p → TrE Φ gk N sc (.Compare a [.Is] [.Constant .none j pos'] pos) (.isN p)
  | notN {N : List Str} {sc : Scope} {a : Expr} {p : ME} {j : Nat} {pos pos' : Pos} : TrE Φ gk N sc a p → TrE Φ gk N sc (.Compare a [.IsNot] [.Constant .none j pos'] pos) (.notN p)
  | chn {N : List Str} {sc : Scope} (o q : CO) {a b c : Expr} {pa pb pc : ME} {pos : Pos} : TrE Φ gk N sc a pa → TrE Φ gk N sc b pb → TrE Φ gk N sc c pc → lastMarks [coOp o, coOp q] [b, c] = false → TrE Φ gk N sc (.Compare a [coOp o, coOp q] [b, c] pos) (.chn o q pa pb pc)
  | bo {N : List Str} {sc : Scope} {o : BoolOp} {a b : Expr} {es : List Expr} {m : ME} {pos : Pos} : TrB Φ gk N sc o (a :: b :: es) m → TrE Φ gk N sc (.BoolOp o (a :: b :: es) pos) m
  | not_ {N : List Str} {sc : Scope} {a : Expr} {p : ME} {pos : Pos} : TrE Φ gk N sc a p → TrE Φ gk N sc (.UnaryOp .Not a pos) (.not_ p)
  | ite {N : List Str} {sc : Scope} {c a b : Expr} {pc pa pb : ME} {pos : Pos} : TrE Φ gk N sc c pc → TrE Φ gk N sc a pa → TrE Φ gk N sc b pb → TrE Φ gk N sc (.IfExp c a b pos) (.ite pc pa pb)
  | idx {N : List Str} {sc : Scope} {a i : Expr} {p q : ME} {pos : Pos} : TrE Φ gk N sc a p → TrE Φ gk N sc i q → PlainIx i → TrE Φ gk N sc (.Subscript a i pos) (.idx p q)
  | slc {N : List Str} {sc : Scope} {a : Expr} {lo hi : Option Expr} {p : ME} {l h : MO} {p2 pos : Pos} : TrE Φ gk N sc a p → TrO Φ gk N sc lo l → TrO Φ gk N sc hi h → TrE Φ gk N sc (.Subscript a (.Slice lo hi none p2) pos) (.slc p l h)
  | revl {N : List Str} {sc : Scope} {a : Expr} {p : ME} {k : Nat} {p1 p2 p3 pos : Pos} : TrE Φ gk N sc a p → TrE Φ gk N sc (.Subscript a (.Slice none none (some (.UnaryOp .USub (.Constant (.int 1) k p1) p2)) p3) pos) (.revl p)
  | call {N : List Str} {sc : Scope} {x : Str} {es : List Expr} {ms : MAs} (f : Nat) {F : FE} {p pos : Pos} : sc.names.lookup x = some .globalImplicit → Φ[f]? = some F → F.name = x → (x == ("__debug__" : Str)) = false → TrA Φ gk N sc es ms → TrE Φ gk N sc (.Call (.Name x p) es [] pos) (.call f ms)
  | b1 {N : List Str} {sc : Scope} (f : B1) {a : Expr} {q : ME} {p pos : Pos} : sc.names.lookup (b1N f) = some .globalImplicit → TrE Φ gk N sc a q → TrE Φ gk N sc (.Call (.Name (b1N f) p) [a] [] pos) (.b1 f q)
  | b2 {N : List Str} {sc : Scope} (f : B2) {a b : Expr} {q r : ME} {p pos : Pos} : sc.names.lookup (b2N f) = some .globalImplicit → TrE Φ gk N sc a q → TrE Φ gk N sc b r → TrE Φ gk N sc (.Call (.Name (b2N f) p) [a, b] [] pos) (.b2 f q r)
  | isi {N : List Str} {sc : Scope} (t : TY) {a : Expr} {q : ME} {p p2 pos : Pos} : sc.names.lookup ("isinstance" : Str) = some .globalImplicit → sc.names.lookup (tyN t) = some .globalImplicit → TrE Φ gk N sc a q → TrE Φ gk N sc (.Call (.Name "isinstance" p) [a, .Name (tyN t) p2] [] pos) (.isi q t)
  | index {N : List Str} {sc : Scope} {o a : Expr} {q r : ME} {apos cpos : Pos} : TrE Φ gk N sc o q → TrE Φ gk N sc a r → (∀ env, attributeBase o "index" env (eval o env) = eval o env) → (apos.endLine == cpos.line) = true → TrE Φ gk N sc (.Call (.Attribute o "index" apos) [a] [] cpos) (.index q r)
  | comp {N : List Str} {sc : Scope} {elt tg iter : Expr} {ifs : List Expr} {scope : Scope} {own : List (Str × Nat)} {pos : Pos} {me : ME} {t : MT} {it : MI} {fs : MEs} :
      blkC N sc scope own = true → TrT N (fun x => scope.names.lookup x == some .cell) (relS scope sc) tg t → (t.slots.all fun i => (own.map (·.2)).contains i) = true → TrI Φ gk N sc (isTup tg) iter it → TrF Φ gk N (relS scope sc) ifs fs → TrE Φ gk N (relS scope sc) elt me →
      (∀ env x, foldedSetIterable iter env x = pure x) → TrE Φ gk N sc (.ListComp elt [⟨tg, iter, ifs, 0⟩] scope pos) (.comp me t it fs (own.map (·.2)))
inductive TrB (Φ : List FE) (gk : List (Str × D)) : List Str → Scope → BoolOp → List Expr → ME → Prop
  | one {N : List Str} {sc : Scope} {o : BoolOp} {a : Expr} {m : ME} : TrE Φ gk N sc a m → TrB Φ gk N sc o [a] m
  | cons {N : List Str} {sc : Scope} {o : BoolOp} {a b : Expr} {r : List Expr} {m n : ME} : TrE Φ gk N sc a m → TrB Φ gk N sc o (b :: r) n → TrB Φ gk N sc o (a :: b :: r) (coB o m n)
inductive TrEs (Φ : List FE) (gk : List (Str × D)) : List Str → Scope → List Expr → MEs → Prop
  | nil {N : List Str} {sc : Scope} : TrEs Φ gk N sc [] .nil
  | cons {N : List Str} {sc : Scope} {e : Expr} {es : List Expr} {m : ME} {ms : MEs} : TrE Φ gk N sc e m → TrEs Φ gk N sc es ms → TrEs Φ gk N sc (e :: es) (.cons m ms)
  | star {N : List Str} {sc : Scope} {e : Expr} {es : List Expr} {p : Pos} {m : ME} {ms : MEs} : TrE Φ gk N sc e m → TrEs Φ gk N sc es ms → TrEs Φ gk N sc (.Starred e p :: es) (.star m ms)
inductive TrA (Φ : List FE) (gk : List (Str × D)) : List Str → Scope → List Expr → MAs → Prop
  | nil {N : List Str} {sc : Scope} : TrA Φ gk N sc [] .nil
  | cons {N : List Str} {sc : Scope} {e : Expr} {es : List Expr} {m : ME} {ms : MAs} : TrE Φ gk N sc e m → TrA Φ gk N sc es ms → TrA Φ gk N sc (e :: es) (.cons m ms)
  | src {N : List Str} {sc : Scope} {i : Nat} {x : Str} {pos : Pos} {es : List Expr} {ms : MAs} : N[i]? = some x → Vis sc x → (x == ("__debug__" : Str)) = false → (x == ("__classdict__" : Str)) = false → TrA Φ gk N sc es ms → TrA Φ gk N sc (.Name x pos :: es) (.src i ms)
inductive TrF (Φ : List FE) (gk : List (Str × D)) : List Str → Scope → List Expr → MEs → Prop
  | nil {N : List Str} {sc : Scope} : TrF Φ gk N sc [] .nil
  | one {N : List Str} {sc : Scope} {e : Expr} {m : ME} : TrE Φ gk N sc e m → TrF Φ gk N sc [e] (.cons m .nil)
inductive TrO (Φ : List FE) (gk : List (Str × D)) : List Str → Scope → Option Expr → MO → Prop
  | no {N : List Str} {sc : Scope} : TrO Φ gk N sc none .no
  | yes {N : List Str} {sc : Scope} {e : Expr} {m : ME} : TrE Φ gk N sc e m → TrO Φ gk N sc (some e) (.yes m)
inductive TrI (Φ : List FE) (gk : List (Str × D)) : List Str → Scope → Bool → Expr → MI → Prop
  | seq {N : List Str} {sc : Scope} {b : Bool} {e : Expr} {m : ME} : TrE Φ gk N sc e m → TrI Φ gk N sc b e (.seq m)
  | range1 {N : List Str} {sc : Scope} {b : Bool} {e : Expr} {m : ME} {p pos : Pos} : sc.names.lookup ("range" : Str) = some .globalImplicit → TrE Φ gk N sc e m → TrI Φ gk N sc b (.Call (.Name "range" p) [e] [] pos) (.range1 m)
  | range2 {N : List Str} {sc : Scope} {b : Bool} {e f : Expr} {m n : ME} {p pos : Pos} : sc.names.lookup ("range" : Str) = some .globalImplicit → TrE Φ gk N sc e m → TrE Φ gk N sc f n → TrI Φ gk N sc b (.Call (.Name "range" p) [e, f] [] pos) (.range2 m n)
  | enum {N : List Str} {sc : Scope} {e : Expr} {m : ME} {p pos : Pos} : sc.names.lookup ("enumerate" : Str) = some .globalImplicit → TrE Φ gk N sc e m → TrI Φ gk N sc true (.Call (.Name "enumerate" p) [e] [] pos) (.enum m)
  | zip {N : List Str} {sc : Scope} {e f : Expr} {m n : ME} {p pos : Pos} : sc.names.lookup ("zip" : Str) = some .globalImplicit → TrE Φ gk N sc e m → TrE Φ gk N sc f n → TrI Φ gk N sc true (.Call (.Name "zip" p) [e, f] [] pos) (.zip m n)
end
/-- no star -/
theorem TrE.ns {Φ : List FE} {gk : List (Str × D)} {N : List Str} {sc : Scope} {e : Expr} {m : ME} (h : TrE Φ gk N sc e m) : ∀ (es : List Expr) (env : Env), starEach (e :: es) env = (false, eval e env) :: starEach es env := by
  cases h <;> intro _ _ <;> rfl
end Os
end
section
set_option linter.all false
set_option maxRecDepth 100000
set_option maxHeartbeats 4000000
/-! OsG: each construct by the evaluator: the single rules. -/
namespace Os
open PySem PySem.Spec PyProof.Rows L2

def tEs (w : World) (Φ : List FE) (ms : MEs) : TA := fun σ H Q => ∃ g G ρ s ds s', ES w g G σ H ρ s ∧ evs Φ ms ρ s = some (ds, s') ∧ ∀ vs H', Keep g H H' → SrcR g H' s' → Dats w (Up G H) H' vs ds → Q vs H'
def tAs (w : World) (Φ : List FE) (ms : MAs) : TA := fun σ H Q => ∃ g G ρ s as s', ES w g G σ H ρ s ∧ eva Φ ms ρ s = some (as, s') ∧ ∀ vs H', Keep g H H' → SrcR g H' s' → AR w g (Up G H) H' vs as → Q vs H'
def tMO (w : World) (Φ : List FE) (m : MO) : TO := fun σ H Q => ∃ g G ρ s i s', ES w g G σ H ρ s ∧ evo Φ m ρ s = some (i, s') ∧ ∀ H', Keep g H H' → SrcR g H' s' → Q i H'
/-- a filter of a comprehension -/
def tFs (w : World) (Φ : List FE) (m : MEs) : TT := fun σ H Q => ∃ g G ρ s b s', ES w g G σ H ρ s ∧ evt Φ m ρ s = some (b, s') ∧ ∀ H', Keep g H H' → SrcR g H' s' → Q b H'

section
variable {X : Cx} {Φ : List FE} {gk : List (Str × D)} {k : Nat}
theorem pe_weak {e : Expr} {t t' : TE} (h : PE X e t) (f : ∀ σ H Q, t' σ H Q → t σ H Q) : PE X e t' := ⟨fun pins s σ H Q I q => h.run pins s σ H Q I (f σ H Q q)⟩
theorem pt_weak {e : Expr} {t t' : TT} (h : PT X e t) (f : ∀ σ H Q, t' σ H Q → t σ H Q) : PT X e t' := ⟨fun pins s σ H Q I q => h.run pins s σ H Q I (f σ H Q q)⟩
theorem pw_weak {e : Expr} {t t' : TT} (h : PW X e t) (f : ∀ σ H Q, t' σ H Q → t σ H Q) : PW X e t' := ⟨fun wh pins s σ H Q I q => h.run wh pins s σ H Q I (f σ H Q q)⟩
theorem pa_weak {es : List Expr} {t t' : TA} (h : PA X es t) (f : ∀ σ H Q, t' σ H Q → t σ H Q) : PA X es t' := ⟨fun pos pins s σ H Q I q => h.run pos pins s σ H Q I (f σ H Q q)⟩
theorem po_weak {e : Option Expr} {t t' : TO} (h : PO X e t) (f : ∀ σ H Q, t' σ H Q → t σ H Q) : PO X e t' := ⟨fun pins s σ H Q I q => h.run pins s σ H Q I (f σ H Q q)⟩

structure Snd (X : Cx) (Φ : List FE) (e : Expr) (m : ME) : Prop where
  pe : PE X e (tE X.w Φ m)
  pt : PT X e (tT X.w Φ m)

theorem mkS {e : Expr} {m : ME} (h : PE X e (tE X.w Φ m)) (he : ∀ whole, isTrue e X.env whole = (do let v ← whole; standAt e.pos; holding [v] (truthy v))) : Snd X Φ e m :=
  ⟨h, pt_weak (pt_truth h he) fun σ H Q ⟨g, G, ρ, s, d, s', b, E, ee, hb, q⟩ => ⟨g, G, ρ, s, d, s', E, ee, fun v H' p _ => ⟨b, tru_of p.dat hb, q H' p.keep p.src⟩⟩⟩

section
variable {g : Option (Addr × Addr)} {G : Addr → Prop} {σ : L2.St} {H H1 H2 : Hp} {ρ : LS} {s s1 s2 : S1}
theorem Ps.fin {v : V} {d : D} {w : World} (k1 : Keep g H H1) (r1 : SrcR g H1 s1) (sm : Same H1 H2) (dd : Dat w (Up (Up G H) H1) H2 v d) : Ps w g G H H2 v d s1 :=
  ⟨k1.trans (Keep.of sm), r1.same sm, dd.mono fun b h => Up.up k1 r1 b h⟩
theorem Ps.flat {v : V} {d : D} {w : World} (k1 : Keep g H H1) (r1 : SrcR g H1 s1) (dd : Dat w (Up G H) H1 v d) : Ps w g G H H1 v d s1 := ⟨k1, r1, dd⟩
theorem NewL.fin {v : V} {d : D} {w : World} (k1 : Keep g H H1) (r1 : SrcR g H1 s1) (n : NewL w (Up G H) H1 H2 v d) : NewL w G H H2 v d := by
  obtain ⟨p, vs, ds, e1, e2, e3, e4, e5⟩ := n
  exact ⟨p, vs, ds, e1, e2, k1.alive r1 e3, e4, e5.mono fun b h => ⟨Up.up k1 r1 b h.1, h.2⟩⟩
end

theorem s_nm {i : Nat} {x : Str} {pos : Pos} (hN : X.N[i]? = some x) (hv : Vis X.env.scope x) (hd : (x == ("__debug__" : Str)) = false) (hc : (x == ("__classdict__" : Str)) = false) : Snd X Φ (.Name x pos) (.nm i) := by
  refine mkS (pe_weak (pe_var hN hv hd hc) fun σ H Q ⟨g, G, ρ, s, d, s', E, ee, q⟩ => ?_) fun _ => rfl
  rw [ev] at ee
  split at ee
  · rename_i y hy
    cases ee
    obtain ⟨v, h1, h2⟩ := E.env i _ hy
    exact ⟨v, h1, q v H ⟨Keep.refl, E.src, h2.weak⟩ fun z => nomatch z⟩
  · cases ee
theorem s_gl (C : XC X Φ gk k) {x : Str} {d : D} {pos : Pos} (h1 : X.env.scope.names.lookup x = some .globalImplicit) (h2 : (x, d) ∈ gk) (hd : (x == ("__debug__" : Str)) = false) : Snd X Φ (.Name x pos) (.k d) := by
  obtain ⟨u, v, m1, m2, m3⟩ := C.gks _ h2
  refine mkS (pe_weak (pe_glob h1 m1 m2 hd) fun σ H Q ⟨g, G, ρ, s, d, s', E, ee, q⟩ => ?_) fun _ => rfl
  cases ee
  exact q v H ⟨Keep.refl, E.src, m3.dat⟩ fun z => nomatch z
theorem s_k {e : Expr} {v : V} {d : D} (h : PE X e (tC v)) (l : leafV v d) (he : ∀ whole, isTrue e X.env whole = (do let v ← whole; standAt e.pos; holding [v] (truthy v))) : Snd X Φ e (.k d) := by
  refine mkS (pe_weak h fun σ H Q ⟨g, G, ρ, s, d, s', E, ee, q⟩ => ?_) he
  cases ee
  exact q v H ⟨Keep.refl, E.src, l.dat⟩ fun z => nomatch z
theorem s_tup {es : List Expr} {ms : MEs} {x1 : Nat} {pos : Pos} (h : PA X es (tEs X.w Φ ms)) : Snd X Φ (.Tuple es x1 pos) (.tup ms) := by
  refine mkS (pe_weak (pe_tupF h) fun σ H Q ⟨g, G, ρ, s, d, s', E, ee, q⟩ => ?_) fun _ => rfl
  rw [ev] at ee
  obtain ⟨⟨ds, s1⟩, e1, e2⟩ := bind_some ee
  dsimp only at e2
  split at e2
  · cases e2
    rename_i hz
    refine ⟨g, G, ρ, s, ds, _, E, e1, fun vs H1 k1 r1 d1 => ⟨by rw [d1.length]; exact hz, fun p o hp ho => q _ _ (Ps.fin k1 r1 (same_new hp) (Dat.newT hp ho d1)) fun z => nomatch z⟩⟩
  · cases e2
theorem s_lst {es : List Expr} {ms : MEs} {pos : Pos} (h : PA X es (tEs X.w Φ ms)) : Snd X Φ (.List es pos) (.lst ms) := by
  refine mkS (pe_weak (pe_lst h) fun σ H Q ⟨g, G, ρ, s, d, s', E, ee, q⟩ => ?_) fun _ => rfl
  rw [ev] at ee
  obtain ⟨⟨ds, s1⟩, e1, e2⟩ := bind_some ee
  dsimp only at e2
  split at e2
  · cases e2
    rename_i hz
    refine ⟨g, G, ρ, s, ds, _, E, e1, fun vs H1 k1 r1 d1 => ⟨by rw [d1.length]; exact hz, fun p hp => q _ _ (Ps.fin k1 r1 (same_new hp) (Dat.newL hp d1)) fun _ => NewL.fin k1 r1 (NewL.mk hp d1)⟩⟩
  · cases e2
theorem s_op (o : O2) {a b : Expr} {p q : ME} {pos : Pos} (ha : Snd X Φ a p) (hb : Snd X Φ b q) : Snd X Φ (.BinOp a (o2Op o) b pos) (.op o p q) := by
  refine mkS (pe_weak (pe_op (op_o2D o) ha.pe hb.pe) fun σ H Q ⟨g, G, ρ, s, d, s', E, ee, q⟩ => ?_) fun _ => rfl
  rw [ev] at ee
  obtain ⟨⟨x, s1⟩, e1, e2⟩ := bind_some ee
  obtain ⟨⟨y, s2⟩, e7, e3⟩ := bind_some e2
  obtain ⟨z, e5, e4⟩ := map_some e3
  cases e4
  exact two E e1 e7 fun v u H2 k2 r2 d1 d2 => ⟨_, x, y, _, d1, d2, e5, fun v H' sm dd => q v H' (Ps.fin k2 r2 sm dd) fun z => nomatch z⟩
theorem s_neg {a : Expr} {p : ME} {pos : Pos} (ha : Snd X Φ a p) : Snd X Φ (.UnaryOp .USub a pos) (.neg p) := by
  refine mkS (pe_weak (pe_un un_neg ha.pe) fun σ H Q ⟨g, G, ρ, s, d, s', E, ee, q⟩ => ?_) fun _ => rfl
  rw [ev] at ee
  obtain ⟨⟨x, s1⟩, e1, e2⟩ := bind_some ee
  dsimp only at e2
  split at e2
  · cases e2
    exact one E e1 fun v H1 k1 r1 d1 => ⟨_, d1.intE, q _ _ ⟨k1, r1, .int _⟩ fun z => nomatch z⟩
  · cases e2
theorem s_cmp (C : XC X Φ gk k) (o : CO) {a b : Expr} {p q : ME} {pos : Pos} (ha : Snd X Φ a p) (hb : Snd X Φ b q) (hm : behindInMarks (coOp o) b = false) : Snd X Φ (.Compare a [coOp o] [b] pos) (.cmp o p q) := by
  constructor
  · refine pe_weak (pe_cmpR (op_cmpC C.xr o) ha.pe hb.pe hm) fun σ H Q ⟨g, G, ρ, s, d, s', E, ee, q⟩ => ?_
    rw [ev] at ee
    obtain ⟨⟨x, s1⟩, e1, e2⟩ := bind_some ee
    obtain ⟨⟨y, s2⟩, e7, e3⟩ := bind_some e2
    obtain ⟨z, e5, e4⟩ := map_some e3
    cases e4
    exact two E e1 e7 fun v u H2 k2 r2 d1 d2 => ⟨_, x, y, _, d1, d2, e5, q _ _ ⟨k2, r2, .bool _⟩ fun z => nomatch z⟩
  · refine pt_weak (pt_cmpR (op_cmpC C.xr o) ha.pe hb.pe hm) fun σ H Q ⟨g, G, ρ, s, d, s', b, E, ee, hb, q⟩ => ?_
    rw [ev] at ee
    obtain ⟨⟨x, s1⟩, e1, e2⟩ := bind_some ee
    obtain ⟨⟨y, s2⟩, e7, e3⟩ := bind_some e2
    obtain ⟨z, e5, e4⟩ := map_some e3
    cases e4
    cases hb
    exact two E e1 e7 fun v u H2 k2 r2 d1 d2 => ⟨_, x, y, _, d1, d2, e5, _, rfl, q _ k2 r2⟩
theorem s_isN {a : Expr} {p : ME} {j : Nat} {pos pos' : Pos} (ha : Snd X Φ a p) : Snd X Φ (.Compare a [.Is] [.Constant .none j pos'] pos) (.isN p) := by
  constructor
  · refine pe_weak (pe_cmp (pc_isN ha.pe)) fun σ H Q ⟨g, G, ρ, s, d, s', E, ee, q⟩ => ?_
    rw [ev] at ee
    obtain ⟨⟨x, s1⟩, e1, e2⟩ := bind_some ee
    cases e2
    refine one E e1 fun v H1 k1 r1 d1 => ?_
    rw [none_iff d1]
    exact q _ _ ⟨k1, r1, .bool _⟩ fun z => nomatch z
  · refine pt_weak (pt_cmp (pc_isN ha.pe)) fun σ H Q ⟨g, G, ρ, s, d, s', b, E, ee, hb, q⟩ => ?_
    rw [ev] at ee
    obtain ⟨⟨x, s1⟩, e1, e2⟩ := bind_some ee
    cases e2
    cases hb
    refine one E e1 fun v H1 k1 r1 d1 => ?_
    rw [none_iff d1]
    exact ⟨_, rfl, q _ k1 r1⟩
theorem s_notN {a : Expr} {p : ME} {j : Nat} {pos pos' : Pos} (ha : Snd X Φ a p) : Snd X Φ (.Compare a [.IsNot] [.Constant .none j pos'] pos) (.notN p) := by
  constructor
  · refine pe_weak (pe_cmp (pc_notN ha.pe)) fun σ H Q ⟨g, G, ρ, s, d, s', E, ee, q⟩ => ?_
    rw [ev] at ee
    obtain ⟨⟨x, s1⟩, e1, e2⟩ := bind_some ee
    cases e2
    refine one E e1 fun v H1 k1 r1 d1 => ?_
    rw [none_iff d1]
    exact q _ _ ⟨k1, r1, .bool _⟩ fun z => nomatch z
  · refine pt_weak (pt_cmp (pc_notN ha.pe)) fun σ H Q ⟨g, G, ρ, s, d, s', b, E, ee, hb, q⟩ => ?_
    rw [ev] at ee
    obtain ⟨⟨x, s1⟩, e1, e2⟩ := bind_some ee
    cases e2
    cases hb
    refine one E e1 fun v H1 k1 r1 d1 => ?_
    rw [none_iff d1]
    exact ⟨_, rfl, q _ k1 r1⟩
theorem chn_core {a b c : ME} {o q : CO} {σ : L2.St} {H : Hp} {g : Option (Addr × Addr)} {G : Addr → Prop} {ρ : LS} {s s' : S1} {z : Bool} {Q : VK} (E : ES X.w g G σ H ρ s) (ee : ev Φ (.chn o q a b c) ρ s = some (.bool z, s'))
    (h : ∀ H', Keep g H H' → SrcR g H' s' → Q (.bl z) H') : tChain (rC2 X.w (dCmp o)) (rC2 X.w (dCmp q)) (tE X.w Φ a) (tE X.w Φ b) (tE X.w Φ c) σ H Q := by
  rw [ev] at ee
  obtain ⟨⟨x, s1⟩, e1, e2⟩ := bind_some ee
  obtain ⟨⟨y, s2⟩, e7, e3⟩ := bind_some e2
  obtain ⟨t, e8, e4⟩ := bind_some e3
  refine two E e1 e7 fun v u H2 k2 r2 d1 d2 => ⟨_, x, y, t, d1, d2, e8, t, rfl, ?_⟩
  cases t with
  | false =>
    cases e4
    exact iteF (h H2 k2 r2)
  | true =>
    obtain ⟨⟨w', s3⟩, e5, e6⟩ := bind_some (show (ev Φ c ρ s2).bind _ = some (PyData.bool z, s') from e4)
    obtain ⟨z', e9, e10⟩ := map_some e6
    cases e10
    refine iteT (one (E.step k2 r2) e5 fun v' H3 k3 r3 d3 => ⟨_, y, w', _, ?_, d3, e9, h H3 (k2.trans k3) r3⟩)
    exact (d2.keep k3 r2 (Up.gok E.src E.gok)).weak.mono fun b hb => hb.elim .inl fun z => .inr (k3.alive r3 z)
theorem s_chn (C : XC X Φ gk k) (o q : CO) {a b c : Expr} {pa pb pc : ME} {pos : Pos} (ha : Snd X Φ a pa) (hb : Snd X Φ b pb) (hc : Snd X Φ c pc) (hm : lastMarks [coOp o, coOp q] [b, c] = false) : Snd X Φ (.Compare a [coOp o, coOp q] [b, c] pos) (.chn o q pa pb pc) := by
  have hbool : ∀ {ρ s d s'}, ev Φ (.chn o q pa pb pc) ρ s = some (d, s') → ∃ z, d = .bool z := by
    intro ρ s d s' ee
    rw [ev] at ee
    obtain ⟨⟨x, s1⟩, e1, e2⟩ := bind_some ee
    obtain ⟨⟨y, s2⟩, e7, e3⟩ := bind_some e2
    obtain ⟨t, e8, e4⟩ := bind_some e3
    cases t with
    | false =>
      cases e4
      exact ⟨_, rfl⟩
    | true =>
      obtain ⟨⟨w', s3⟩, e5, e6⟩ := bind_some (show (ev Φ pc ρ s2).bind _ = some (d, s') from e4)
      obtain ⟨z', e9, e10⟩ := map_some e6
      cases e10
      exact ⟨_, rfl⟩
  constructor
  · refine pe_weak (pe_chain (op_cmpC C.xr o) (op_cmpC C.xr q) ha.pe hb.pe hc.pe hm) fun σ H Q ⟨g, G, ρ, s, d, s', E, ee, h⟩ => ?_
    obtain ⟨z, rfl⟩ := hbool ee
    exact chn_core E ee fun H' k1 r1 => h _ _ ⟨k1, r1, .bool _⟩ fun z => nomatch z
  · refine pt_weak (pt_chain (op_cmpC C.xr o) (op_cmpC C.xr q) ha.pe hb.pe hc.pe hm) fun σ H Q ⟨g, G, ρ, s, d, s', b, E, ee, hb, h⟩ => ?_
    obtain ⟨z, rfl⟩ := hbool ee
    cases hb
    exact chn_core E ee fun H' k1 r1 => ⟨_, rfl, h H' k1 r1⟩
end
end Os
end
section
set_option linter.all false
set_option maxRecDepth 100000
set_option maxHeartbeats 4000000
/-! OsH: each construct by the evaluator: and, or, places, slices, calls. -/
namespace Os
open PySem PySem.Spec PyProof.Rows L2

section
variable {X : Cx} {Φ : List FE} {gk : List (Str × D)} {k : Nat}
/-- and, or: as a value, as a test -/
structure SndB (X : Cx) (Φ : List FE) (o : BoolOp) (es : List Expr) (m : ME) : Prop where
  pe : ∀ pos, PE X (.BoolOp o es pos) (tE X.w Φ m)
  pw : ∀ pos, PW X (.BoolOp o es pos) (tT X.w Φ m)
theorem b_one {o : BoolOp} {a : Expr} {m : ME} (h : Snd X Φ a m) : SndB X Φ o [a] m := by
  refine ⟨fun pos => pe_one h.pe, fun pos => ?_⟩
  cases o
  · exact pw_and1 h.pt
  · exact pw_or1 h.pt
theorem b_cons {o : BoolOp} {a b : Expr} {r : List Expr} {m n : ME} (ha : Snd X Φ a m) (hb : SndB X Φ o (b :: r) n) : SndB X Φ o (a :: b :: r) (coB o m n) := by
  refine ⟨fun pos => ?_, fun pos => ?_⟩
  · cases o
    · refine pe_weak (pe_andT ha.pe (hb.pe pos)) fun σ H Q ⟨g, G, ρ, s, d, s', E, ee, q⟩ => ?_
      replace ee : ev Φ (.and_ m n) ρ s = some (d, s') := ee
      rw [ev] at ee
      obtain ⟨⟨x, s1⟩, e1, e2⟩ := bind_some ee
      obtain ⟨t, e3, e4⟩ := bind_some e2
      refine one E e1 fun v H1 k1 r1 d1 => ⟨t, tru_of d1 e3, ?_⟩
      cases t with
      | true => exact iteT (one (E.step k1 r1) e4 fun u H2 k2 r2 d2 => q _ _ ⟨k1.trans k2, r2, d2.mono fun b h => Up.up k1 r1 b h⟩ fun z => nomatch z)
      | false =>
        cases e4
        exact iteF (q _ _ ⟨k1, r1, d1⟩ fun z => nomatch z)
    · refine pe_weak (pe_orT ha.pe (hb.pe pos)) fun σ H Q ⟨g, G, ρ, s, d, s', E, ee, q⟩ => ?_
      replace ee : ev Φ (.or_ m n) ρ s = some (d, s') := ee
      rw [ev] at ee
      obtain ⟨⟨x, s1⟩, e1, e2⟩ := bind_some ee
      obtain ⟨t, e3, e4⟩ := bind_some e2
      refine one E e1 fun v H1 k1 r1 d1 => ⟨t, tru_of d1 e3, ?_⟩
      cases t with
      | false => exact iteF (one (E.step k1 r1) e4 fun u H2 k2 r2 d2 => q _ _ ⟨k1.trans k2, r2, d2.mono fun b h => Up.up k1 r1 b h⟩ fun z => nomatch z)
      | true =>
        cases e4
        exact iteT (q _ _ ⟨k1, r1, d1⟩ fun z => nomatch z)
  · cases o
    · refine pw_weak (pw_and ha.pt (hb.pw pos)) fun σ H Q ⟨g, G, ρ, s, d, s', c, E, ee, hc, q⟩ => ?_
      replace ee : ev Φ (.and_ m n) ρ s = some (d, s') := ee
      rw [ev] at ee
      obtain ⟨⟨x, s1⟩, e1, e2⟩ := bind_some ee
      obtain ⟨t, e3, e4⟩ := bind_some e2
      refine ⟨g, G, ρ, s, x, s1, t, E, e1, e3, fun H1 k1 r1 => ?_⟩
      cases t with
      | true => exact iteT ⟨g, _, ρ, s1, d, s', c, E.step k1 r1, e4, hc, fun H2 k2 r2 => q _ (k1.trans k2) r2⟩
      | false =>
        cases e4
        rw [e3] at hc
        cases hc
        exact iteF (q _ k1 r1)
    · refine pw_weak (pw_or ha.pt (hb.pw pos)) fun σ H Q ⟨g, G, ρ, s, d, s', c, E, ee, hc, q⟩ => ?_
      replace ee : ev Φ (.or_ m n) ρ s = some (d, s') := ee
      rw [ev] at ee
      obtain ⟨⟨x, s1⟩, e1, e2⟩ := bind_some ee
      obtain ⟨t, e3, e4⟩ := bind_some e2
      refine ⟨g, G, ρ, s, x, s1, t, E, e1, e3, fun H1 k1 r1 => ?_⟩
      cases t with
      | false => exact iteF ⟨g, _, ρ, s1, d, s', c, E.step k1 r1, e4, hc, fun H2 k2 r2 => q _ (k1.trans k2) r2⟩
      | true =>
        cases e4
        rw [e3] at hc
        cases hc
        exact iteT (q _ k1 r1)
theorem s_bo {o : BoolOp} {es : List Expr} {m : ME} {pos : Pos} (h : SndB X Φ o es m) : Snd X Φ (.BoolOp o es pos) m := ⟨h.pe pos, (h.pw pos).pt⟩
theorem s_not {a : Expr} {p : ME} {pos : Pos} (ha : Snd X Φ a p) : Snd X Φ (.UnaryOp .Not a pos) (.not_ p) := by
  constructor
  · refine pe_weak (pe_notT ha.pe) fun σ H Q ⟨g, G, ρ, s, d, s', E, ee, q⟩ => ?_
    rw [ev] at ee
    obtain ⟨⟨x, s1⟩, e1, e2⟩ := bind_some ee
    obtain ⟨t, e3, e4⟩ := map_some e2
    cases e4
    exact one E e1 fun v H1 k1 r1 d1 => ⟨t, tru_of d1 e3, q _ _ ⟨k1, r1, .bool _⟩ fun z => nomatch z⟩
  · refine pt_weak (pt_not ha.pt) fun σ H Q ⟨g, G, ρ, s, d, s', c, E, ee, hc, q⟩ => ?_
    rw [ev] at ee
    obtain ⟨⟨x, s1⟩, e1, e2⟩ := bind_some ee
    obtain ⟨t, e3, e4⟩ := map_some e2
    cases e4
    cases hc
    exact ⟨g, G, ρ, s, x, s', t, E, e1, e3, fun H1 k1 r1 => q _ k1 r1⟩
theorem pt_ite {c a b : Expr} {tc ta tb : TT} {pos : Pos} (hc : PT X c tc) (ha : PT X a ta) (hb : PT X b tb) : PT X (.IfExp c a b pos) (fun σ H Q => tc σ H fun k H1 => if k = true then ta σ H1 Q else tb σ H1 Q) := by
  refine ⟨fun pins s σ H Q I h => ?_⟩
  show wpAny _ _ (isTrue c X.env (eval c X.env) >>= fun k => if k = true then isTrue a X.env (eval a X.env) else isTrue b X.env (eval b X.env)) _ _ s
  refine wpAny_bind (thn (hc.run pins s σ H _ I h) fun d s1 ⟨H1, I1, q1⟩ => ?_)
  cases d with
  | true => exact ha.run pins s1 σ H1 Q I1 q1
  | false => exact hb.run pins s1 σ H1 Q I1 q1
theorem s_ite {c a b : Expr} {pc pa pb : ME} {pos : Pos} (hc : Snd X Φ c pc) (ha : Snd X Φ a pa) (hb : Snd X Φ b pb) : Snd X Φ (.IfExp c a b pos) (.ite pc pa pb) := by
  constructor
  · refine pe_weak (pe_ifExp hc.pt ha.pe hb.pe) fun σ H Q ⟨g, G, ρ, s, d, s', E, ee, q⟩ => ?_
    rw [ev] at ee
    obtain ⟨⟨x, s1⟩, e1, e2⟩ := bind_some ee
    obtain ⟨t, e3, e4⟩ := bind_some e2
    refine ⟨g, G, ρ, s, x, s1, t, E, e1, e3, fun H1 k1 r1 => ?_⟩
    cases t with
    | true => exact iteT ⟨g, _, ρ, s1, d, s', E.step k1 r1, e4, fun v H2 p n => q v H2 (Ps.comp E k1 r1 p) fun z => NewL.fin k1 r1 (n (by rw [newE, Bool.and_eq_true] at z; exact z.1))⟩
    | false => exact iteF ⟨g, _, ρ, s1, d, s', E.step k1 r1, e4, fun v H2 p n => q v H2 (Ps.comp E k1 r1 p) fun z => NewL.fin k1 r1 (n (by rw [newE, Bool.and_eq_true] at z; exact z.2))⟩
  · refine pt_weak (pt_ite hc.pt ha.pt hb.pt) fun σ H Q ⟨g, G, ρ, s, d, s', b, E, ee, hb, q⟩ => ?_
    rw [ev] at ee
    obtain ⟨⟨x, s1⟩, e1, e2⟩ := bind_some ee
    obtain ⟨t, e3, e4⟩ := bind_some e2
    refine ⟨g, G, ρ, s, x, s1, t, E, e1, e3, fun H1 k1 r1 => ?_⟩
    cases t with
    | true => exact iteT ⟨g, _, ρ, s1, d, s', b, E.step k1 r1, e4, hb, fun H2 k2 r2 => q _ (k1.trans k2) r2⟩
    | false => exact iteF ⟨g, _, ρ, s1, d, s', b, E.step k1 r1, e4, hb, fun H2 k2 r2 => q _ (k1.trans k2) r2⟩
theorem s_idx {a i : Expr} {p q : ME} {pos : Pos} (ha : Snd X Φ a p) (hi : Snd X Φ i q) (hx : PlainIx i) : Snd X Φ (.Subscript a i pos) (.idx p q) := by
  refine mkS (pe_weak (pe_ix ix_D ha.pe hi.pe hx) fun σ H Q ⟨g, G, ρ, s, d, s', E, ee, h⟩ => ?_) fun _ => rfl
  rw [ev] at ee
  obtain ⟨⟨x, s1⟩, e1, e2⟩ := bind_some ee
  obtain ⟨⟨y, s2⟩, e3, e4⟩ := bind_some e2
  obtain ⟨z, e5, e6⟩ := map_some e4
  cases e6
  exact two E e1 e3 fun v u H2 k2 r2 d1 d2 => ⟨_, x, y, _, d1, d2, e5, fun v H' sm dd => h v H' (Ps.fin k2 r2 sm dd) fun z => nomatch z⟩
theorem o_no : PO X none (tMO X.w Φ .no) := po_weak po_none fun σ H Q ⟨g, G, ρ, s, i, s', E, ee, q⟩ => by
  cases ee
  exact q H Keep.refl E.src
theorem o_yes {e : Expr} {m : ME} (h : Snd X Φ e m) : PO X (some e) (tMO X.w Φ (.yes m)) := po_weak (po_some h.pe) fun σ H Q ⟨g, G, ρ, s, i, s', E, ee, q⟩ => by
  rw [evo] at ee
  obtain ⟨⟨x, s1⟩, e1, e2⟩ := bind_some ee
  obtain ⟨j, e3, e4⟩ := map_some e2
  cases e4
  refine one E e1 fun v H1 k1 r1 d1 => ?_
  unfold bnd at e3
  split at e3
  · cases e3
    exact ⟨_, d1.intE, q H1 k1 r1⟩
  · cases e3
theorem s_slc {a : Expr} {lo hi : Option Expr} {p : ME} {l h : MO} {p2 pos : Pos} (ha : Snd X Φ a p) (hl : PO X lo (tMO X.w Φ l)) (hh : PO X hi (tMO X.w Φ h)) : Snd X Φ (.Subscript a (.Slice lo hi none p2) pos) (.slc p l h) := by
  refine mkS (pe_weak (pe_slice sl_D ha.pe hl hh) fun σ H Q ⟨g, G, ρ, s, d, s', E, ee, q⟩ => ?_) fun _ => rfl
  rw [ev] at ee
  obtain ⟨⟨x, s1⟩, e1, e2⟩ := bind_some ee
  obtain ⟨⟨i, s2⟩, e3, e4⟩ := bind_some e2
  obtain ⟨⟨j, s3⟩, e5, e6⟩ := bind_some e4
  obtain ⟨z, e7, e8⟩ := map_some e6
  cases e8
  refine one E e1 fun v H1 k1 r1 d1 => ⟨g, _, ρ, s1, i, s2, E.step k1 r1, e3, fun H2 k2 r2 => ⟨g, _, ρ, s2, j, _, (E.step k1 r1).step k2 r2, e5, fun H3 k3 r3 => ?_⟩⟩
  have k12 := k1.trans k2
  have dd : Dat X.w (Up G H) H3 v x := (d1.keep k2 r1 (Up.gok E.src E.gok)).keep k3 r2 (Up.gok E.src E.gok)
  exact ⟨_, x, _, dd, e7, fun v H' sm dd => q v H' (Ps.fin (k12.trans k3) r3 sm dd) fun z => nomatch z⟩
theorem s_revl {a : Expr} {p : ME} {k : Nat} {p1 p2 p3 pos : Pos} (ha : Snd X Φ a p) : Snd X Φ (.Subscript a (.Slice none none (some (.UnaryOp .USub (.Constant (.int 1) k p1) p2)) p3) pos) (.revl p) := by
  refine mkS (pe_weak (pe_revL ha.pe) fun σ H Q ⟨g, G, ρ, s, d, s', E, ee, q⟩ => ?_) fun _ => rfl
  rw [ev] at ee
  obtain ⟨⟨x, s1⟩, e1, e2⟩ := bind_some ee
  dsimp only at e2
  split at e2
  · cases e2
    refine one E e1 fun v H1 k1 r1 d1 => ?_
    obtain ⟨a, vs, rfl, _, e, r⟩ := d1.listE
    exact ⟨_, _, rfl, SqL.of e, fun p hp => q _ _ (Ps.fin k1 r1 (same_new hp) (Dat.newL hp r.rev)) fun _ => NewL.fin k1 r1 (NewL.mk hp r.rev)⟩
  · cases e2

/-! ### arguments -/
theorem p_nil : PA X [] (tEs X.w Φ .nil) := pa_weak pa_nil fun σ H Q ⟨g, G, ρ, s, ds, s', E, ee, q⟩ => by
  cases ee
  exact q [] H Keep.refl E.src .nil
theorem p_cons {e : Expr} {es : List Expr} {m : ME} {ms : MEs} (h : Snd X Φ e m) (hn : ∀ (es : List Expr) (env : Env), starEach (e :: es) env = (false, eval e env) :: starEach es env) (hr : PA X es (tEs X.w Φ ms)) : PA X (e :: es) (tEs X.w Φ (.cons m ms)) :=
  pa_weak (pa_cons h.pe hr (hn _ _)) fun σ H Q ⟨g, G, ρ, s, ds, s', E, ee, q⟩ => by
    rw [evs] at ee
    obtain ⟨⟨x, s1⟩, e1, e2⟩ := bind_some ee
    obtain ⟨⟨xs, s2⟩, e3, e4⟩ := map_some e2
    cases e4
    exact one E e1 fun v H1 k1 r1 d1 => ⟨g, _, ρ, s1, xs, _, E.step k1 r1, e3, fun vs H2 k2 r2 d2 => q _ _ (k1.trans k2) r2 (.cons (d1.keep k2 r1 (Up.gok E.src E.gok)) (d2.mono fun b h => Up.up k1 r1 b h))⟩
theorem p_star {e : Expr} {es : List Expr} {p : Pos} {m : ME} {ms : MEs} (h : Snd X Φ e m) (hr : PA X es (tEs X.w Φ ms)) : PA X (.Starred e p :: es) (tEs X.w Φ (.star m ms)) :=
  pa_weak (StX.pa_star h.pe hr) fun σ H Q ⟨g, G, ρ, s, ds, s', E, ee, q⟩ => by
    rw [evs] at ee
    obtain ⟨⟨x, s1⟩, e1, e2⟩ := bind_some ee
    obtain ⟨ys, e3, e4⟩ := bind_some e2
    obtain ⟨⟨xs, s2⟩, e5, e6⟩ := map_some e4
    cases e6
    refine one E e1 fun v H1 k1 r1 d1 => ?_
    have h0 : ∃ p vs, v = .ref p ∧ (SqT X.K H1 p vs ∨ SqL X.K H1 p vs) ∧ Dats X.w (Up G H) H1 vs ys := by
      cases d1 with
      | list g e r =>
        cases e3
        exact ⟨_, _, rfl, .inr (SqL.of e), r⟩
      | tup e n r =>
        cases e3
        exact ⟨_, _, rfl, .inl (SqT.fz e), r⟩
      | _ => cases e3
    obtain ⟨a, vs, rfl, h1, h2⟩ := h0
    exact ⟨a, vs, rfl, h1, g, _, ρ, s1, xs, _, E.step k1 r1, e5, fun us H2 k2 r2 d2 => q _ _ (k1.trans k2) r2 ((h2.keep k2 r1 (Up.gok E.src E.gok)).append (d2.mono fun b h => Up.up k1 r1 b h))⟩
theorem q_nil : PA X [] (tAs X.w Φ .nil) := pa_weak pa_nil fun σ H Q ⟨g, G, ρ, s, ds, s', E, ee, q⟩ => by
  cases ee
  exact q [] H Keep.refl E.src .nil
theorem q_cons {e : Expr} {es : List Expr} {m : ME} {ms : MAs} (h : Snd X Φ e m) (hn : ∀ (es : List Expr) (env : Env), starEach (e :: es) env = (false, eval e env) :: starEach es env) (hr : PA X es (tAs X.w Φ ms)) : PA X (e :: es) (tAs X.w Φ (.cons m ms)) :=
  pa_weak (pa_cons h.pe hr (hn _ _)) fun σ H Q ⟨g, G, ρ, s, ds, s', E, ee, q⟩ => by
    rw [eva] at ee
    obtain ⟨⟨x, s1⟩, e1, e2⟩ := bind_some ee
    obtain ⟨⟨xs, s2⟩, e3, e4⟩ := map_some e2
    cases e4
    exact one E e1 fun v H1 k1 r1 d1 => ⟨g, _, ρ, s1, xs, _, E.step k1 r1, e3, fun vs H2 k2 r2 d2 => q _ _ (k1.trans k2) r2 (.cons (d1.keep k2 r1 (Up.gok E.src E.gok)) (d2.keep fun v x z => z.mono fun b h => Up.up k1 r1 b h))⟩
theorem q_src {i : Nat} {x : Str} {pos : Pos} {es : List Expr} {ms : MAs} (hN : X.N[i]? = some x) (hv : Vis X.env.scope x) (hd : (x == ("__debug__" : Str)) = false) (hc : (x == ("__classdict__" : Str)) = false) (hr : PA X es (tAs X.w Φ ms)) : PA X (.Name x pos :: es) (tAs X.w Φ (.src i ms)) :=
  pa_weak (pa_cons (pe_var hN hv hd hc) hr) fun σ H Q ⟨g, G, ρ, s, ds, s', E, ee, q⟩ => by
    rw [eva] at ee
    split at ee
    · rename_i hy
      obtain ⟨⟨xs, s2⟩, e3, e4⟩ := map_some ee
      cases e4
      obtain ⟨a, c, eg, h1⟩ := E.esrc i hy
      exact ⟨_, h1, g, G, ρ, s, xs, _, E, e3, fun vs H2 k2 r2 d2 => q _ _ k2 r2 (.src eg d2)⟩
    · cases ee
/-- the starred parts of an argument list: none -/
theorem any_back {pos : Pos} {es : List Expr} {env : Env} (h : ∀ x ∈ starEach es env, x.1 = false) : (backTo pos (starEach es env)).any (·.1) = false := by
  unfold backTo
  rw [List.any_map, List.any_eq_false]
  intro x hx
  have := h x hx
  simp [this]

/-! ### calls -/
theorem call_fn {P : VK} {pins : List (Addr × Obj)} {σ : L2.St} {H : Hp} {s : Shared} {us : List Value} {vs : List V} {f : Addr} {fd : FuncData} {ps : List Str} {sp : Sp} (F : FnG X.prog X.w X.K X.mg X.base k f fd ps sp) (hr : RoomG k X.A) (hb : Binds X.K fd ps [])
    (I : Inv X pins σ H s) (r : Vals vs us) (h : sp vs H P E0) : wpAny (model X.prog X.w) X.A (call (.ref f) us) (EP X pins σ P) X.xe s := by
  have hl : (us ++ []).length = ps.length := by
    rw [List.append_nil, ← r.length]
    exact F.size _ _ _ _ h
  have hbb := hb s us I.kIn hl
  rw [List.append_nil] at hbb
  refine wpAny_call (codeAny_mono (F.go X.A X.stack s H ⟨us, []⟩ us vs P E0 hr I.env0 hbb r h) fun res s' hq => ?_)
  cases res with
  | error e => exact False.elim hq
  | ok fl =>
    cases fl with
    | ret u => exact I.after hq
    | next => exact False.elim hq
    | brk => exact False.elim hq
    | cont => exact False.elim hq
theorem pe_fn {sp : Sp} {t : TA} {x : Str} {p pos : Pos} {e : Expr} {es : List Expr} {f : Addr} {fd : FuncData} {ps : List Str} (F : FnG X.prog X.w X.K X.mg X.base k f fd ps sp) (hr : RoomG k X.A) (hg : Gl X x) (hm : X.mg x = some (.ref f)) (hk : PySem.W.keepIn X.K (.ref f) = true) (hb : Binds X.K fd ps [])
    (ha : PA X (e :: es) t) (hdb : (x == ("__debug__" : Str)) = false) (he : starEach (e :: es) X.env = (false, eval e X.env) :: starEach es X.env) (hst : ∀ y ∈ starEach es X.env, y.1 = false) :
    PE X (.Call (.Name x p) (e :: es) [] pos) (fun σ H Q => t σ H fun vs H1 => sp vs H1 Q E0) := by
  refine ⟨fun pins s σ H Q I h => ?_⟩
  refine wpAny_Call_Name_kw (ld_glob I hg hm ?_ hdb)
  refine PySem.W.callWith_K (h₀ := X.base) I.ok.mod.kin hk (thn (ha.run pos pins s σ H _ I h) fun us s1 ⟨vs, H1, I1, r, q⟩ => ⟨I1.kIn, ?_⟩) he (any_back hst)
  exact call_fn F hr hb I1 r q
theorem pe_fn0 {sp : Sp} {x : Str} {p pos : Pos} {f : Addr} {fd : FuncData} {ps : List Str} (F : FnG X.prog X.w X.K X.mg X.base k f fd ps sp) (hr : RoomG k X.A) (hg : Gl X x) (hm : X.mg x = some (.ref f)) (hk : PySem.W.keepIn X.K (.ref f) = true) (hb : Binds X.K fd ps [])
    (hdb : (x == ("__debug__" : Str)) = false) : PE X (.Call (.Name x p) [] [] pos) (fun σ H Q => sp [] H Q E0) := by
  refine ⟨fun pins s σ H Q I h => ?_⟩
  refine wpAny_Call_Name_kw (ld_glob I hg hm ?_ hdb)
  exact PySem.W.callWith_K0 I.kIn hk (call_fn F hr hb I .nil h)

/-- what the arguments of a call are, by shape -/
structure ArgOk (X : Cx) (Φ : List FE) (es : List Expr) (ms : MAs) : Prop where
  pa : PA X es (tAs X.w Φ ms)
  plain : ∀ env, ∀ y ∈ starEach es env, y.1 = false
  first : ∀ e r, es = e :: r → ∀ env, starEach (e :: r) env = (false, eval e env) :: starEach r env
  emp : es = [] → ms = .nil
theorem s_call (C : XC X Φ gk k) {x : Str} {es : List Expr} {ms : MAs} (f : Nat) {F : FE} {p pos : Pos} (hg : X.env.scope.names.lookup x = some .globalImplicit) (hf : Φ[f]? = some F) (hx : F.name = x) (hd : (x == ("__debug__" : Str)) = false) (ha : ArgOk X Φ es ms) : Snd X Φ (.Call (.Name x p) es [] pos) (.call f ms) := by
  obtain ⟨a, fd, ps, h1, h2, h3, h4, h5⟩ := C.fns F (List.mem_of_getElem? hf)
  rw [hx] at h1
  have core : ∀ σ H Q, tE X.w Φ (.call f ms) σ H Q → tAs X.w Φ ms σ H fun vs H1 => spF X.w F vs H1 Q E0 := fun σ H Q ⟨g, G, ρ, s, d, s', E, ee, q⟩ => by
    rw [ev] at ee
    obtain ⟨⟨xs, s1⟩, e1, e2⟩ := bind_some ee
    simp only [hf] at e2
    split at e2
    · rename_i hz
      refine ⟨g, G, ρ, s, xs, s1, E, e1, fun vs H1 k1 r1 d1 => ⟨g, _, xs, s1, d, s', Up.gok E.src E.gok, r1, d1, hz, e2, fun v H' pp nn => q v H' (Ps.comp E k1 r1 pp) fun z => NewL.fin k1 r1 (nn ?_)⟩⟩
      have z' : newE Φ (.call f ms) = F.fresh := by
        rw [newE, hf]
      rw [← z']
      exact z
    · cases e2
  refine mkS ?_ fun _ => rfl
  cases es with
  | nil =>
    refine pe_weak (pe_fn0 h5 C.rm hg h1 h2 h3 hd) fun σ H Q h => ?_
    obtain rfl := ha.emp rfl
    obtain ⟨g, G, ρ, s, d, s', E, ee, q⟩ := h
    rw [ev] at ee
    obtain ⟨⟨xs, s1⟩, e1, e2⟩ := bind_some ee
    cases e1
    simp only [hf] at e2
    split at e2
    · rename_i hz
      refine ⟨g, G, [], s, d, s', E.gok, E.src, .nil, hz, e2, fun v H' pp nn => q v H' pp fun z => nn ?_⟩
      have z' : newE Φ (.call f .nil) = F.fresh := by
        rw [newE, hf]
      rw [← z']
      exact z
    · cases e2
  | cons e r => exact pe_weak (pe_fn h5 C.rm hg h1 h2 h3 ha.pa hd (ha.first e r rfl _) fun y hy => ha.plain X.env y (by rw [ha.first e r rfl]; exact List.mem_cons_of_mem _ hy)) core
end
end Os
end
section
set_option linter.all false
set_option maxRecDepth 100000
set_option maxHeartbeats 4000000
/-! OsI: built-ins called; what is walked. -/
namespace Os
open PySem PySem.Spec PyProof.Rows L2

section
variable {X : Cx} {Φ : List FE} {gk : List (Str × D)} {k : Nat}
theorem s_b1 (C : XC X Φ gk k) (f : B1) {a : Expr} {q : ME} {p pos : Pos} (hg : X.env.scope.names.lookup (b1N f) = some .globalImplicit) (ha : Snd X Φ a q) (hn : ∀ (es : List Expr) (env : Env), starEach (a :: es) env = (false, eval a env) :: starEach es env) : Snd X Φ (.Call (.Name (b1N f) p) [a] [] pos) (.b1 f q) := by
  have hm := C.bl _ (b1_mem f)
  have h1 : PE X (.Call (.Name (b1N f) p) [a] [] pos) (tCB (rB1N X.w f) (tCons (tE X.w Φ q) tNil)) := by
    cases f <;> first
      | exact pe_callB (call_b1 C.xr _) hg hm rfl (pa_cons ha.pe pa_nil (hn _ _)) (by decide) (by decide) (hn _ _) rfl
      | exact pe_callTy (call_b1 C.xr _) hg hm rfl (pa_cons ha.pe pa_nil (hn _ _)) (by decide) (by decide) (hn _ _) rfl
  refine mkS (pe_weak h1 fun σ H Q ⟨g, G, ρ, s, d, s', E, ee, h⟩ => ?_) fun _ => rfl
  rw [ev] at ee
  obtain ⟨⟨x, s1⟩, e1, e2⟩ := bind_some ee
  obtain ⟨z, e3, e4⟩ := map_some e2
  cases e4
  refine one E e1 fun v H1 k1 r1 d1 => ⟨v, rfl, _, x, _, d1, e3, fun u H2 sm dd nn => h u H2 (Ps.fin k1 r1 sm dd) fun z => NewL.fin k1 r1 (nn ?_)⟩
  cases f <;> first | exact .inl rfl | exact .inr rfl | cases z
theorem s_b2 (C : XC X Φ gk k) (f : B2) {a b : Expr} {q r : ME} {p pos : Pos} (hg : X.env.scope.names.lookup (b2N f) = some .globalImplicit) (ha : Snd X Φ a q) (hb : Snd X Φ b r) (hn : ∀ (es : List Expr) (env : Env), starEach (a :: es) env = (false, eval a env) :: starEach es env)
    (hn' : ∀ (es : List Expr) (env : Env), starEach (b :: es) env = (false, eval b env) :: starEach es env) : Snd X Φ (.Call (.Name (b2N f) p) [a, b] [] pos) (.b2 f q r) := by
  have hm := C.bl _ (b2_mem f)
  have hpl : (backTo pos (starEach [b] X.env)).any (·.1) = false := any_back fun y hy => by
    rw [hn' [] X.env] at hy
    rcases List.mem_cons.mp hy with e | e
    · rw [e]
    · cases e
  have h1 : PE X (.Call (.Name (b2N f) p) [a, b] [] pos) (tCB (rB2 X.w f) (tCons (tE X.w Φ q) (tCons (tE X.w Φ r) tNil))) := by
    cases f <;> exact pe_callB (call_b2 C.xr _) hg hm rfl (pa_cons ha.pe (pa_cons hb.pe pa_nil (hn' _ _)) (hn _ _)) (by decide) (by decide) (hn _ _) hpl
  refine mkS (pe_weak h1 fun σ H Q ⟨g, G, ρ, s, d, s', E, ee, h⟩ => ?_) fun _ => rfl
  rw [ev] at ee
  obtain ⟨⟨x, s1⟩, e1, e2⟩ := bind_some ee
  obtain ⟨⟨y, s2⟩, e3, e4⟩ := bind_some e2
  obtain ⟨z, e5, e6⟩ := map_some e4
  cases e6
  exact two E e1 e3 fun v u H2 k2 r2 d1 d2 => ⟨v, u, rfl, _, x, y, _, d1, d2, e5, fun v H' sm dd => h v H' (Ps.fin k2 r2 sm dd) fun z => nomatch z⟩
theorem s_isi (C : XC X Φ gk k) (t : TY) {a : Expr} {q : ME} {p p2 pos : Pos} (hg : X.env.scope.names.lookup ("isinstance" : Str) = some .globalImplicit) (ht : X.env.scope.names.lookup (tyN t) = some .globalImplicit) (ha : Snd X Φ a q)
    (hn : ∀ (es : List Expr) (env : Env), starEach (a :: es) env = (false, eval a env) :: starEach es env) : Snd X Φ (.Call (.Name "isinstance" p) [a, .Name (tyN t) p2] [] pos) (.isi q t) := by
  have hm := C.bl "isinstance" (by decide +kernel)
  have h0 : PE X (.Name (tyN t) p2) (tC (.ty (tyS t))) := pe_bltn ht (C.bl _ (ty_mem t)) (ty_boot t) rfl (ty_nn t) (ty_nd t)
  have h1 : PE X (.Call (.Name "isinstance" p) [a, .Name (tyN t) p2] [] pos) (tCB (fun xs H Q => ∃ x G d, xs = [x, .ty (tyS t)] ∧ Dat X.w G H x d ∧ Q (.bl (isTy t d)) H) (tCons (tE X.w Φ q) (tCons (tC (.ty (tyS t))) tNil))) :=
    pe_callB (call_isiO t) hg hm rfl (pa_cons ha.pe (pa_cons h0 pa_nil) (hn _ _)) (by decide) (by decide) (hn _ _) rfl
  refine mkS (pe_weak h1 fun σ H Q ⟨g, G, ρ, s, d, s', E, ee, h⟩ => ?_) fun _ => rfl
  rw [ev] at ee
  obtain ⟨⟨x, s1⟩, e1, e2⟩ := bind_some ee
  cases e2
  exact one E e1 fun v H1 k1 r1 d1 => ⟨v, _, x, rfl, d1, h _ _ ⟨k1, r1, .bool _⟩ fun z => nomatch z⟩
theorem s_index (C : XC X Φ gk k) {o a : Expr} {q r : ME} {apos cpos : Pos} (ho : Snd X Φ o q) (ha : Snd X Φ a r) (hn : ∀ (es : List Expr) (env : Env), starEach (a :: es) env = (false, eval a env) :: starEach es env)
    (hbase : ∀ env, attributeBase o "index" env (eval o env) = eval o env) (hline : (apos.endLine == cpos.line) = true) : Snd X Φ (.Call (.Attribute o "index" apos) [a] [] cpos) (.index q r) := by
  refine mkS ⟨fun pins s σ H Q I ⟨g, G, ρ, s0, d, s', E, ee, h⟩ => ?_⟩ fun _ => rfl
  rw [ev] at ee
  obtain ⟨⟨x, s1⟩, e1, e2⟩ := bind_some ee
  obtain ⟨⟨y, s2⟩, e3, e4⟩ := bind_some e2
  obtain ⟨z, e5, e6⟩ := map_some e4
  cases e6
  have hfew : ((backTo cpos (starEach [a] X.env)).all (fun x => !x.1) && (backToKw cpos (keywordEach [] X.env)).all (fun x => x.1.isSome) && decide ([a].length + ([] : List Keyword).length + (if ([] : List Keyword).isEmpty then 0 else 1) < 30)) = true := by
    rw [hn [] X.env]
    rfl
  have hA : PA X [a] (tCons (tE X.w Φ r) tNil) := pa_cons ha.pe pa_nil (hn _ _)
  have hw : tE X.w Φ q σ H fun x' H1 => tE X.w Φ r σ H1 fun y' H2 => Dat X.w (Up G H) H1 x' x ∧ Dat X.w (Up G H) H2 x' x ∧ Dat X.w (Up G H) H2 y' y ∧ Keep g H H2 ∧ SrcR g H2 s' :=
    one E e1 fun v H1 k1 r1 d1 => one (E.step k1 r1) e3 fun u H2 k2 r2 d2 => ⟨d1, d1.keep k2 r1 (Up.gok E.src E.gok), d2.mono fun b h => Up.up k1 r1 b h, k1.trans k2, r2⟩
  have hx : ∃ ds, x = .tuple ds := by
    unfold dIndex at e5
    split at e5
    · exact ⟨_, rfl⟩
    · cases e5
  obtain ⟨ds, rfl⟩ := hx
  have hw' : tE X.w Φ q σ H fun x' H1 => (∃ (p : Addr) (o : Obj) (vs : List V), x' = .ref p ∧ H1 p = some (.frz o (.tup vs)) ∧ o.dict = none) ∧ tE X.w Φ r σ H1 fun y' H2 => Dat X.w (Up G H) H2 x' (.tuple ds) ∧ Dat X.w (Up G H) H2 y' y ∧ Keep g H H2 ∧ SrcR g H2 s' :=
    one E e1 fun v H1 k1 r1 d1 => ⟨let ⟨p, o, vs, h1, h2, h3, _⟩ := d1.tupE; ⟨p, o, vs, h1, h2, h3⟩, one (E.step k1 r1) e3 fun u H2 k2 r2 d2 => ⟨d1.keep k2 r1 (Up.gok E.src E.gok), d2.mono fun b h => Up.up k1 r1 b h, k1.trans k2, r2⟩⟩
  refine wpAny_Call_method_late (hbase X.env) hfew hline rfl (thn (ho.pe.run pins s σ H _ I hw') fun v st1 ⟨x', H1, I1, rx, ⟨p, ob, vs, ex, eh, nd⟩, q1⟩ => ?_)
  subst ex
  cases rx
  obtain ⟨eo, _, its, rv, o2, eo2, c2, n2, dd2⟩ := I1.hok _ _ eh
  rw [eo] at eo2
  cases eo2
  refine ⟨"tuple", "tuple.index", PySem.F.plainAttrs_tuple, PySem.F.slot_tuple_index, PySem.F.type_tuple_index, ⟨ob, eo, c2⟩, fun a' e' => ?_, ?_⟩
  · cases e'
    exact ⟨ob, eo, nd⟩
  have hB := hA.run cpos pins st1 σ H1 (fun us H2 => ∃ y', us = [y'] ∧ Dat X.w (Up G H) H2 (.ref p) (.tuple ds) ∧ Dat X.w (Up G H) H2 y' y ∧ Keep g H H2 ∧ SrcR g H2 s') I1 (by
    obtain ⟨g', G', ρ', t0, d', t', E', e', hq⟩ := q1
    exact ⟨g', G', ρ', t0, d', t', E', e', fun v H' pp nn => ⟨v, rfl, hq v H' pp nn⟩⟩)
  rw [hn [] X.env] at hB ⊢
  refine Calls.callWith_builtin rfl (Calls.evalArgs_plain (thn hB fun us st2 ⟨ws, H2, I2, r2, y', ey, d1, d2, kk, rr⟩ => ?_))
  subst ey
  exact mt_indexO C.xr pins st2 σ H2 (.ref p) _ _ us Q I2 rfl r2 ⟨y', rfl, _, _, _, _, d1, d2, e5, fun v H' sm dd => h v H' (Ps.fin kk rr sm dd) fun z => nomatch z⟩
end
end Os
end
section
set_option linter.all false
set_option maxRecDepth 100000
set_option maxHeartbeats 4000000
/-! OsJ: what is walked: lists, tuples, ranges, enumerate, zip. -/
namespace Os
open PySem PySem.Spec PyProof.Rows L2

/-- enumerate over a tuple -/
def IteT (K : PySem.W.Frag) (a : Addr) : It :=
  ⟨fun i H => ∃ (xs : List V) (x : V), SqT K H a xs ∧ xs[i]? = some x, fun i H v H' => ∃ T x, v = .ref T ∧ H T = none ∧ H' = upd H T (.tup [.int (i : Nat), x]) ∧ ∀ xs, SqT K H a xs → xs[i]? = some x, fun i H => ∃ xs : List V, SqT K H a xs ∧ xs.length ≤ i⟩
theorem enum_ne {h : Heap} {e it a : Addr} {i : Int} {old : Value} {its : Array Value} (he : IsEnum h e it i old) (p : h.IsTuple a its) : e ≠ a := by
  intro z
  subst z
  obtain ⟨o, q1, q2, _⟩ := p
  rw [he] at q1
  cases q1
  simp at q2
theorem tit_ne {h : Heap} {it a : Addr} {i : Nat} {its : Array Value} (he : h.IsTupleIter it a i) (p : h.IsTuple a its) : a ≠ it := by
  intro z
  subst z
  obtain ⟨o, q1, q2, q3⟩ := p
  obtain ⟨o2, q4, q5, q6⟩ := he
  rw [q1] at q4
  cases q4
  rw [q2] at q5
  simp at q5
theorem turn_enumT {P : Program} {w : World} {K : PySem.W.Frag} {elts : List Expr} {kk : Nat} {tpos : Pos} (a e it : Addr) :
    Turn P w K (.Tuple elts kk tpos) (IteT K a) [e, it] e (fun i h => (∃ old, IsEnum h e it ((i : Nat) : Int) old) ∧ h.IsTupleIter it a i ∧ e ≠ it) where
  mem := by simp
  obj := fun i h st b hb => by
    obtain ⟨⟨old, he⟩, ⟨o, ho, hc, hd⟩, _⟩ := st
    have e' : b = e ∨ b = it := by simpa using hb
    rcases e' with z | z
    · rw [z]; exact ⟨_, he, fun v q => nomatch q⟩
    · rw [z]; exact ⟨o, ho, fun v q => by rw [hd] at q; cases q⟩
  keep := fun i h h' st k => let ⟨⟨old, he⟩, hi, hne⟩ := st; ⟨⟨old, k e (by simp) _ he⟩, hi.at fun o q => k it (by simp) o q, hne⟩
  item := by
    intro X hP hw hK hc i pins s σ H E I hf st hg
    subst hP hw hK
    obtain ⟨⟨old, he⟩, hit, hne⟩ := st
    obtain ⟨xs, x, hq, hx⟩ := hg
    obtain ⟨its, rv, p0, hz⟩ := I.tuple hq
    have p : s.heap.IsTuple a its.toArray := p0
    obtain ⟨u, hu, ru⟩ := rv.get hx
    have hel : e < s.heap.objs.size := Heap.lt_size he
    have hil : it < s.heap.objs.size := by obtain ⟨_, q, _⟩ := hit; exact Heap.lt_size q
    have hai := tit_ne hit p
    have hilt : i < its.toArray.size := by
      rcases List.getElem?_eq_some_iff.mp hu with ⟨h1, _⟩
      simpa using h1
    have Dr : Draws X.prog X.w X.A.in1 it [it, a] its.toArray.size (fun i v => its.toArray[i]? = some v) (fun i h => h.IsTupleIter it a i ∧ h.IsTuple a its.toArray) := Draws.tuple (show X.A.in1.handled = none from I.ok.hd hc) it a hai its.toArray
    refine wpAny_pyNext_enum_itemD Dr he ⟨hit, p⟩ hilt hne (by
      intro z
      rcases List.mem_cons.mp z with z | z
      · exact hne z
      · exact enum_ne he p (List.mem_singleton.mp z)) fun u' h' tk hP ho hit' hT hsz hk => ?_
    have eu : u' = u := by
      rw [show its.toArray[i]? = some u by simpa using hu] at hP
      cases hP
      rfl
    subst eu
    refine ⟨_, rfl, wpAny_letOwnedTupleGo_enum (s := { s with heap := h', toks := tk + 1 }) ho fun h'' he' sb => ?_⟩
    have hT2 : h''.get? s.heap.objs.size = some { cls := .type "tuple", data := .seq #[.int i tk, u'] } := (sb.2 _ (Nat.ne_of_gt hel)).trans hT
    have new : ObjOk X.prog X.w (upd H s.heap.objs.size (.tup [.int (i : Nat), x])) h'' s.heap.objs.size (.tup [.int (i : Nat), x]) :=
      ⟨by show 2 ≤ sizeLine; decide, [.int i tk, u'], .cons ⟨_, rfl⟩ (.cons ru .nil), ⟨_, hT2, rfl, _, rfl⟩⟩
    have I1 : Inv X pins σ (upd H s.heap.objs.size (.tup [.int (i : Nat), x])) { s with heap := h'', toks := tk + 1 } :=
      I.turnedNew (ch := [e, it]) (fun b ob hb q => (sb.2 b (fun z => hb (by simp [z]))).trans (hk b ob (fun z => hb (by simp [z])) (fun z => hb (by simp [z])) q)) hf (Nat.le_refl _) new
    refine ⟨.ref s.heap.objs.size, _, I1, rfl, ⟨_, x, rfl, I.hok.fresh (Nat.le_refl _), rfl, fun ys hy => by rw [I.tuple_inj hy hq]; exact hx⟩, ⟨⟨u', ?_⟩, hit'.1.at fun o q => (sb.2 it (Ne.symm hne)).trans q, hne⟩, fun b hb => ?_⟩
    · have e1 : ((i + 1 : Nat) : Int) = (i : Int) + 1 := by omega
      rw [e1]; exact he'
    · have hb' : b < s.heap.objs.size := by
        have e' : b = e ∨ b = it := by simpa using hb
        rcases e' with z | z
        · rw [z]; exact hel
        · rw [z]; exact hil
      rw [upd_ne (Nat.ne_of_lt hb')]
      exact (hf b hb).1
  done := by
    intro X hP hw hK hc i pins s σ H E I hf st hg
    subst hP hw hK
    obtain ⟨⟨old, he⟩, hit, hne⟩ := st
    obtain ⟨xs, hq, hx⟩ := hg
    obtain ⟨its, rv, p0, hz⟩ := I.tuple hq
    have p : s.heap.IsTuple a its.toArray := p0
    obtain ⟨f0, f1, f2, f3, f4, f5⟩ := hf it (by simp)
    have hl := rv.length
    have hai := tit_ne hit p
    have Dr : Draws X.prog X.w X.A.in1 it [it, a] i (fun j v => False) (fun j h => j = i ∧ h.IsTupleIter it a i ∧ h.IsTuple a its.toArray) := {
      live := fun _ _ st => let ⟨o, ho, _⟩ := st.2.1; ⟨o, ho⟩
      frame := fun _ _ _ st hk => ⟨st.1, st.2.1.at fun o e => hk it (by simp) o e, st.2.2.at fun o e => hk a (by simp) o e⟩
      item := fun j s Q E hi st hQ => absurd st.1 (by omega)
      done := fun s Q E st hE => wpAny_nextOf_tuple_end (show X.A.in1.handled = none from I.ok.hd hc) st.2.1 st.2.2 (Array.getElem?_eq_none (by simp; omega)) hE }
    exact wpAny_pyNext_enum_endD Dr he ⟨rfl, hit, p⟩ fun h' eb => ⟨rfl, I.turned (t' := s.toks) (fun b o hb q => eb b o hb q) f0 f1 f3 f4 f5⟩
  self := fun A i s Q E st h => let ⟨⟨_, he⟩, _⟩ := st; wpAny_pyIter_enum he h

set_option maxHeartbeats 8000000 in
theorem meets_enumT (l : Addr) (items : Array Value) :
    Meets (Builtin.«enumerate.__new__» ⟨[.type "enumerate", .ref l], []⟩) (fun _ R s => s.heap.IsTuple l items ∧
      R (.ok (.ret (.ref (s.heap.push { cls := .type "tuple_iterator", data := .fields #[.ref l, .int 0 0] }).objs.size)))
        { s with heap := (s.heap.push { cls := .type "tuple_iterator", data := .fields #[.ref l, .int 0 0] }).push { cls := .type "enumerate", data := .fields #[.none, .bool false, .ref s.heap.objs.size, rawInt 0, .none, .none] } }) :=
  .of_wp fun prog w A R s h => by
    obtain ⟨hp, g, d, tk, os⟩ := s; obtain ⟨hL, h⟩ := h
    have hsub := sub_enumerate
    have q1 : ∀ {A' : Around} {E : Value → Shared → Prop} {Q : Value → Shared → Prop}, Q (.ref hp.objs.size) ⟨hp.push { cls := .type "tuple_iterator", data := .fields #[.ref l, .int 0 0] }, g, d, tk, os⟩ → wpAny (model prog w) A' (pyIter (.ref l)) Q E ⟨hp, g, d, tk, os⟩ :=
      fun q => (begins_tuple l items).iter prog w _ _ ⟨hp, g, d, tk, os⟩ _ hL q
    wp_walk using q1
    refine wpAny_stack_any fun st => wpAny_pure ?_
    split
    · rename_i c _ _ _ _ _
      cases (c == Value.type "enumerate")
      · wp_walk using q1
        exact ⟨_, rfl, h⟩
      · wp_walk using q1
        exact ⟨_, rfl, h⟩
    · wp_walk using q1
      exact ⟨_, rfl, h⟩
theorem call_enumT {prog : Program} {w : World} {A : Around} {E : Value → Shared → Prop} {s : Shared} {l : Addr} {items : Array Value} {Q : Value → Shared → Prop} (hL : s.heap.IsTuple l items)
    (h : ∀ h', IsEnum h' (s.heap.objs.size + 1) s.heap.objs.size 0 .none → h'.IsTupleIter s.heap.objs.size l 0 → h'.objs.size = s.heap.objs.size + 2 →
      (∀ b o, s.heap.get? b = some o → h'.get? b = some o) → Q (.ref (s.heap.objs.size + 1)) { s with heap := h' }) :
    wpAny (model prog w) A (call (.type "enumerate") [.ref l]) Q E s := by
  refine callType_new F.called_enumerate (by decide) (F.typeCall_enumerate_1 _) (F.newCall_enumerate_1 _) (fun obj => F.args_object_init_2 obj _) F.entry_enumerate_new
    (meets_enumT l items) ⟨hL, ?_⟩
  have hz : (s.heap.push { cls := .type "tuple_iterator", data := .fields #[.ref l, .int 0 0] }).objs.size = s.heap.objs.size + 1 := Heap.size_push ..
  show _ ∧ _
  rw [hz]
  have he : IsEnum ((s.heap.push { cls := .type "tuple_iterator", data := .fields #[.ref l, .int 0 0] }).push
      { cls := .type "enumerate", data := .fields #[.none, .bool false, .ref s.heap.objs.size, rawInt 0, .none, .none] }) (s.heap.objs.size + 1) s.heap.objs.size 0 .none := by
    have := Heap.get?_push_size (s.heap.push { cls := .type "tuple_iterator", data := .fields #[.ref l, .int 0 0] })
      (o := { cls := .type "enumerate", data := .fields #[.none, .bool false, .ref s.heap.objs.size, rawInt 0, .none, .none] }) rfl
    rw [hz] at this; exact this
  refine ⟨⟨_, he, rfl⟩, h _ he ⟨_, Heap.get?_push_of_some _ (Heap.get?_push_size _ rfl), rfl, rfl⟩ (by rw [Heap.size_push, hz]) fun b o x => Heap.get?_push_of_some _ (Heap.get?_push_of_some _ x)⟩
def iEnumT (K : PySem.W.Frag) (ta : TA) : TI := fun σ H R => ta σ H fun vs H1 => ∃ a xs, vs = [.ref a] ∧ SqT K H1 a xs ∧ R (IteT K a) H1
theorem pi_enumT {X : Cx} {e : Expr} {ta : TA} {p pos tpos : Pos} {elts : List Expr} {kk : Nat} (hg : Gl X "enumerate") (hm : X.mg "enumerate" = none) (ha : PA X [e] ta) (hs : starEach [e] X.env = [(false, eval e X.env)] := by rfl) :
    PI X (.Tuple elts kk tpos) (.Call (.Name "enumerate" p) [e] [] pos) (iEnumT X.K ta) := by
  refine ⟨fun pins s σ H R I h => ?_⟩
  refine Call_ (ld_blt I hg hm boot_enumerate (PyProof.Rows.callWith_type1 (thn (ha.run pos pins s σ H _ I h) fun us s1 ⟨vs, H1, I1, r1, q1⟩ => ?_) hs rfl))
  obtain ⟨a, xs, ex, hq, q⟩ := q1
  subst ex
  cases r1 with
  | cons r rr =>
    cases rr
    cases r
    obtain ⟨its, rv, p', hz⟩ := I1.tuple hq
    refine call_enumT (show s1.heap.IsTuple a its.toArray from p') fun h' he hit hsz hk => wpAny_pyIter_enum he ?_
    have I2 : Inv X pins σ H1 { s1 with heap := h' } := I1.kept (t' := s1.toks) hk
    refine ⟨s1.heap.objs.size + 1, [s1.heap.objs.size + 1, s1.heap.objs.size], _, _, H1, rfl, I2, turn_enumT a (s1.heap.objs.size + 1) s1.heap.objs.size, ⟨⟨.none, he⟩, hit, Nat.succ_ne_self _⟩, fun b hb => ?_, q⟩
    have e' : b = s1.heap.objs.size + 1 ∨ b = s1.heap.objs.size := by simpa using hb
    have hle : s1.heap.objs.size ≤ b := by
      rcases e' with z | z
      · rw [z]; exact Nat.le_add_right _ _
      · rw [z]; exact Nat.le_refl _
    exact I1.fpOk hle (I1.hok.fresh hle)
theorem walk_enumT {K : PySem.W.Frag} {a : Addr} {xs : List V} : Walk (IteT K a) xs.length (fun H => SqT K H a xs) (YPair (fun i => some (.int (i : Nat))) (fun i => xs[i]?)) := by
  refine ⟨fun i _ hi q => ⟨xs, xs[i], q, by simp [hi]⟩, fun _ q => ⟨xs, q, Nat.le_refl _⟩, fun i H v H' _ q y => ?_⟩
  obtain ⟨T, x, h1, h2, h3, h4⟩ := y
  exact ⟨T, .int (i : Nat), x, h1, h2, h3, rfl, h4 xs q⟩
theorem walk_zipT {K : PySem.W.Frag} {a b : Addr} {xs ys : List V} {n : Nat} (hn : n = min xs.length ys.length) : Walk (RZ.ItzT K a b) n (fun H => SqT K H a xs ∧ SqT K H b ys) (YPair (fun i => xs[i]?) (fun i => ys[i]?)) := by
  subst hn
  refine ⟨fun i _ hi q => ?_, fun _ q => ⟨xs, ys, q.1, q.2, by omega⟩, fun i H v H' _ q y => ?_⟩
  · have h1 : i < xs.length := by omega
    have h2 : i < ys.length := by omega
    exact ⟨xs, ys, xs[i], ys[i], q.1, q.2, by simp [h1], by simp [h2]⟩
  · obtain ⟨T, x, z, h1, h2, h3, h4, h5⟩ := y
    exact ⟨T, x, z, h1, h2, h3, h4 xs q.1, h5 ys q.2⟩
end Os
end
section
set_option linter.all false
set_option maxRecDepth 100000
set_option maxHeartbeats 4000000
/-! OsK: what is walked, by data; targets; comprehensions. -/
namespace Os
open PySem PySem.Spec PyProof.Rows L2

/-- what G holds and every tuple stand as they did -/
def KeepG (G : Addr → Prop) (H H' : Hp) : Prop := (∀ b o, G b → H b = some o → H' b = some o) ∧ ∀ b o xs, H b = some (.frz o (.tup xs)) → H' b = some (.frz o (.tup xs))
theorem KeepG.of {g : Option (Addr × Addr)} {G : Addr → Prop} {H H' : Hp} {s : S1} (hg : ∀ b, G b → ¬ Own2 g b) (r : SrcR g H s) (k : Keep g H H') : KeepG G H H' :=
  ⟨fun b o gb e => k b o e (hg b gb), fun b o xs e => k b _ e (r.tup e)⟩
/-- what is drawn: a value, or a new pair -/
def ItemR (pr : Bool) (w : World) (G : Addr → Prop) (H : Hp) (v : V) (d : D) : Prop := Dat w G H v d ∨ pr = true ∧ ∃ T x y dx dy, v = .ref T ∧ H T = some (.tup [x, y]) ∧ Dat w G H x dx ∧ Dat w G H y dy ∧ d = .tuple [dx, dy]
def ItOk (pr : Bool) (w : World) (G : Addr → Prop) (H0 : Hp) (J : It) (xs : List D) : Prop := Walk J xs.length (fun H => KeepG G H0 H) (fun i H v H' => Same H H' ∧ ∃ d, xs[i]? = some d ∧ ItemR pr w G H' v d)
def tI (pr : Bool) (w : World) (Φ : List FE) (m : MI) : TI := fun σ H R => ∃ g G ρ s xs s', ES w g G σ H ρ s ∧ evi Φ m ρ s = some (xs, s') ∧ ∀ J H', Keep g H H' → SrcR g H' s' → ItOk pr w (fun b => Up G H b ∧ H' b ≠ none) H' J xs → R J H'

section
variable {w : World} {K : PySem.W.Frag} {G : Addr → Prop} {H0 : Hp} {pr : Bool}
theorem Dats.keepG {H : Hp} {vs : List V} {ds : List D} (r : Dats w G H0 vs ds) (k : KeepG G H0 H) : Dats w G H vs ds := r.go (fun b o g e => ⟨k.1 b o g e, g⟩) k.2
theorem it_list {a : Addr} {vs : List V} {ds : List D} (g : G a) (e : H0 a = some (.lst vs)) (r : Dats w G H0 vs ds) : ItOk pr w G H0 (Itl K a) ds := by
  unfold ItOk
  rw [← r.length]
  refine (walk_list (K := K)).mono (fun H k => SqL.of (k.1 _ _ g e)) fun i H v H' hi k y => ?_
  obtain ⟨rfl, hy⟩ := y
  obtain ⟨d, h1, h2⟩ := (r.keepG k).getV hy
  exact ⟨Same.refl _, d, h1, .inl h2⟩
theorem it_tup {a : Addr} {o : Obj} {vs : List V} {ds : List D} (e : H0 a = some (.frz o (.tup vs))) (r : Dats w G H0 vs ds) : ItOk pr w G H0 (Itt K a) ds := by
  unfold ItOk
  rw [← r.length]
  refine (walk_tup (K := K)).mono (fun H k => SqT.fz (k.2 _ _ _ e)) fun i H v H' hi k y => ?_
  obtain ⟨rfl, hy⟩ := y
  obtain ⟨d, h1, h2⟩ := (r.keepG k).getV hy
  exact ⟨Same.refl _, d, h1, .inl h2⟩
theorem it_range {lo : Int} {n : Nat} : ItOk pr w G H0 (Itr lo n) (rangeD lo n) := by
  have hl : (rangeD lo n).length = n := by simp [rangeD]
  unfold ItOk
  rw [hl]
  refine walk_range.mono (fun H k => trivial) fun i H v H' hi k y => ?_
  obtain ⟨rfl, rfl⟩ := y
  exact ⟨Same.refl _, .int (lo + i), by simp [rangeD, hi], .inl (.int _)⟩
theorem enum_len (xs : List D) : (enumD xs).length = xs.length := by simp [enumD]
theorem enum_get {xs : List D} {i : Nat} {x : D} (h : xs[i]? = some x) : (enumD xs)[i]? = some (.tuple [.int (i : Nat), x]) := by
  have hl : i < xs.length := (List.getElem?_eq_some_iff.mp h).1
  rw [enumD, List.getElem?_zipWith, h, List.getElem?_range hl]
theorem it_enum {a : Addr} {vs : List V} {ds : List D} (g : G a) (e : H0 a = some (.lst vs)) (r : Dats w G H0 vs ds) : ItOk true w G H0 (Ite K a) (enumD ds) := by
  unfold ItOk
  rw [enum_len, ← r.length]
  refine (walk_enum (K := K)).mono (fun H k => SqL.of (k.1 _ _ g e)) fun i H v H' hi k y => ?_
  obtain ⟨T, x, y, rfl, hT, rfl, e1, e2⟩ := y
  cases e1
  obtain ⟨d, h1, h2⟩ := (r.keepG k).getV e2
  exact ⟨same_new hT, _, enum_get h1, .inr ⟨rfl, T, _, _, _, _, rfl, upd_same, .int _, h2.same (same_new hT), rfl⟩⟩
theorem it_enumT {a : Addr} {o : Obj} {vs : List V} {ds : List D} (e : H0 a = some (.frz o (.tup vs))) (r : Dats w G H0 vs ds) : ItOk true w G H0 (IteT K a) (enumD ds) := by
  unfold ItOk
  rw [enum_len, ← r.length]
  refine (walk_enumT (K := K)).mono (fun H k => SqT.fz (k.2 _ _ _ e)) fun i H v H' hi k y => ?_
  obtain ⟨T, x, y, rfl, hT, rfl, e1, e2⟩ := y
  cases e1
  obtain ⟨d, h1, h2⟩ := (r.keepG k).getV e2
  exact ⟨same_new hT, _, enum_get h1, .inr ⟨rfl, T, _, _, _, _, rfl, upd_same, .int _, h2.same (same_new hT), rfl⟩⟩
theorem zip_len (xs ys : List D) : (zipD xs ys).length = min xs.length ys.length := by simp [zipD]
theorem zip_get {xs ys : List D} {i : Nat} {x y : D} (h : xs[i]? = some x) (h2 : ys[i]? = some y) : (zipD xs ys)[i]? = some (.tuple [x, y]) := by
  simp [zipD, List.getElem?_zipWith, h, h2]
theorem it_zip {a b : Addr} {vs us : List V} {ds es : List D} (g : G a) (g2 : G b) (e : H0 a = some (.lst vs)) (e2 : H0 b = some (.lst us)) (r : Dats w G H0 vs ds) (r2 : Dats w G H0 us es) : ItOk true w G H0 (Itz K a b) (zipD ds es) := by
  unfold ItOk
  rw [zip_len, ← r.length, ← r2.length]
  refine (walk_zip (K := K) rfl).mono (fun H k => ⟨SqL.of (k.1 _ _ g e), SqL.of (k.1 _ _ g2 e2)⟩) fun i H v H' hi k y => ?_
  obtain ⟨T, x, y, rfl, hT, rfl, q1, q2⟩ := y
  obtain ⟨d, h1, h2⟩ := (r.keepG k).getV q1
  obtain ⟨d', h1', h2'⟩ := (r2.keepG k).getV q2
  exact ⟨same_new hT, _, zip_get h1 h1', .inr ⟨rfl, T, _, _, _, _, rfl, upd_same, h2.same (same_new hT), h2'.same (same_new hT), rfl⟩⟩
theorem it_zipT {a b : Addr} {o o2 : Obj} {vs us : List V} {ds es : List D} (e : H0 a = some (.frz o (.tup vs))) (e2 : H0 b = some (.frz o2 (.tup us))) (r : Dats w G H0 vs ds) (r2 : Dats w G H0 us es) : ItOk true w G H0 (RZ.ItzT K a b) (zipD ds es) := by
  unfold ItOk
  rw [zip_len, ← r.length, ← r2.length]
  refine (walk_zipT (K := K) rfl).mono (fun H k => ⟨SqT.fz (k.2 _ _ _ e), SqT.fz (k.2 _ _ _ e2)⟩) fun i H v H' hi k y => ?_
  obtain ⟨T, x, y, rfl, hT, rfl, q1, q2⟩ := y
  obtain ⟨d, h1, h2⟩ := (r.keepG k).getV q1
  obtain ⟨d', h1', h2'⟩ := (r2.keepG k).getV q2
  exact ⟨same_new hT, _, zip_get h1 h1', .inr ⟨rfl, T, _, _, _, _, rfl, upd_same, h2.same (same_new hT), h2'.same (same_new hT), rfl⟩⟩
end

section
variable {X : Cx} {Φ : List FE} {gk : List (Str × D)} {k : Nat} {tg : Expr} {pr : Bool}
theorem pi_weak {e : Expr} {t t' : TI} (h : PI X tg e t) (f : ∀ σ H R, t' σ H R → t σ H R) : PI X tg e t' := ⟨fun pins s σ H R I q => h.run pins s σ H R I (f σ H R q)⟩
theorem i_seq {e : Expr} {m : ME} (h : Snd X Φ e m) : PI X tg e (tI pr X.w Φ (.seq m)) := by
  refine ⟨fun pins s σ H R I ⟨g, G, ρ, s0, xs, s', E, ee, q⟩ => ?_⟩
  rw [evi] at ee
  obtain ⟨⟨x, s1⟩, e1, e2⟩ := bind_some ee
  obtain ⟨ys, e3, e4⟩ := map_some e2
  cases e4
  unfold seqOf at e3
  split at e3
  · cases e3
    refine (pi_list h.pe).run pins s σ H R I (one E e1 fun v H1 k1 r1 d1 => ?_)
    obtain ⟨a, vs, rfl, ga, ea, r⟩ := d1.listE
    exact ⟨a, rfl, ⟨vs, SqL.of ea⟩, q _ _ k1 r1 (it_list ⟨ga, ea ▸ nofun⟩ ea r.live)⟩
  · cases e3
    refine (pi_tup h.pe).run pins s σ H R I (one E e1 fun v H1 k1 r1 d1 => ?_)
    obtain ⟨a, o, vs, rfl, ea, nd, r⟩ := d1.tupE
    exact ⟨a, rfl, ⟨vs, SqT.fz ea⟩, q _ _ k1 r1 (it_tup ea r.live)⟩
  · cases e3
theorem i_range1 (C : XC X Φ gk k) {e : Expr} {m : ME} {p pos : Pos} (hg : X.env.scope.names.lookup ("range" : Str) = some .globalImplicit) (h : Snd X Φ e m) (hn : ∀ (es : List Expr) (env : Env), starEach (e :: es) env = (false, eval e env) :: starEach es env) :
    PI X tg (.Call (.Name "range" p) [e] [] pos) (tI pr X.w Φ (.range1 m)) := by
  refine pi_weak (pi_range1 hg (C.bl "range" (by decide +kernel)) (pa_cons h.pe pa_nil (hn _ _)) (hn _ _)) fun σ H R ⟨g, G, ρ, s0, xs, s', E, ee, q⟩ => ?_
  rw [evi] at ee
  obtain ⟨⟨x, s1⟩, e1, e2⟩ := bind_some ee
  refine one E e1 fun v H1 k1 r1 d1 => ?_
  dsimp only at e2
  split at e2
  · split at e2
    · rename_i hz
      cases e2
      obtain rfl := d1.intE
      exact ⟨_, rfl, hz.1, hz.2, q _ _ k1 r1 it_range⟩
    · cases e2
  · cases e2
theorem i_range2 (C : XC X Φ gk k) {e f : Expr} {m n : ME} {p pos : Pos} (hg : X.env.scope.names.lookup ("range" : Str) = some .globalImplicit) (h : Snd X Φ e m) (h2 : Snd X Φ f n) (hn : ∀ (es : List Expr) (env : Env), starEach (e :: es) env = (false, eval e env) :: starEach es env)
    (hn2 : ∀ (es : List Expr) (env : Env), starEach (f :: es) env = (false, eval f env) :: starEach es env) : PI X tg (.Call (.Name "range" p) [e, f] [] pos) (tI pr X.w Φ (.range2 m n)) := by
  refine pi_weak (pi_range2 hg (C.bl "range" (by decide +kernel)) (pa_cons h.pe (pa_cons h2.pe pa_nil (hn2 _ _)) (hn _ _)) (by rw [hn, hn2]; rfl) (by rw [hn2]; rfl)) fun σ H R ⟨g, G, ρ, s0, xs, s', E, ee, q⟩ => ?_
  rw [evi] at ee
  obtain ⟨⟨x, s1⟩, e1, e2⟩ := bind_some ee
  obtain ⟨⟨y, s2⟩, e3, e4⟩ := bind_some e2
  refine two E e1 e3 fun v u H2 k2 r2 d1 d2 => ?_
  dsimp only at e4
  split at e4
  · split at e4
    · rename_i hz
      cases e4
      obtain rfl := d1.intE
      obtain rfl := d2.intE
      exact ⟨_, _, rfl, ⟨hz.1.1, hz.1.2, hz.2.1, hz.2.2⟩, q _ _ k2 r2 it_range⟩
    · cases e4
  · cases e4
theorem i_enum (C : XC X Φ gk k) {elts : List Expr} {kk : Nat} {tpos : Pos} {e : Expr} {m : ME} {p pos : Pos} (hg : X.env.scope.names.lookup ("enumerate" : Str) = some .globalImplicit) (h : Snd X Φ e m) (hn : ∀ (es : List Expr) (env : Env), starEach (e :: es) env = (false, eval e env) :: starEach es env) :
    PI X (.Tuple elts kk tpos) (.Call (.Name "enumerate" p) [e] [] pos) (tI true X.w Φ (.enum m)) := by
  have hm := C.bl "enumerate" (by decide +kernel)
  refine ⟨fun pins s σ H R I ⟨g, G, ρ, s0, xs, s', E, ee, q⟩ => ?_⟩
  rw [evi] at ee
  obtain ⟨⟨x, s1⟩, e1, e2⟩ := bind_some ee
  dsimp only at e2
  split at e2
  · cases e2
    refine (pi_enum hg hm (pa_cons h.pe pa_nil (hn _ _)) (hn _ _)).run pins s σ H R I (one E e1 fun v H1 k1 r1 d1 => ?_)
    obtain ⟨a, vs, rfl, ga, ea, r⟩ := d1.listE
    exact ⟨a, vs, rfl, SqL.of ea, q _ _ k1 r1 (it_enum ⟨ga, ea ▸ nofun⟩ ea r.live)⟩
  · cases e2
    refine (pi_enumT hg hm (pa_cons h.pe pa_nil (hn _ _)) (hn _ _)).run pins s σ H R I (one E e1 fun v H1 k1 r1 d1 => ?_)
    obtain ⟨a, o, vs, rfl, ea, nd, r⟩ := d1.tupE
    exact ⟨a, vs, rfl, SqT.fz ea, q _ _ k1 r1 (it_enumT ea r.live)⟩
  · cases e2
theorem i_zip (C : XC X Φ gk k) {elts : List Expr} {kk : Nat} {tpos : Pos} {e f : Expr} {m n : ME} {p pos : Pos} (hg : X.env.scope.names.lookup ("zip" : Str) = some .globalImplicit) (h : Snd X Φ e m) (h2 : Snd X Φ f n) (hn : ∀ (es : List Expr) (env : Env), starEach (e :: es) env = (false, eval e env) :: starEach es env)
    (hn2 : ∀ (es : List Expr) (env : Env), starEach (f :: es) env = (false, eval f env) :: starEach es env) : PI X (.Tuple elts kk tpos) (.Call (.Name "zip" p) [e, f] [] pos) (tI true X.w Φ (.zip m n)) := by
  have hm := C.bl "zip" (by decide +kernel)
  have hpl : (backTo pos (starEach [f] X.env)).any (·.1) = false := any_back fun y hy => by
    rw [hn2 [] X.env] at hy
    rcases List.mem_cons.mp hy with e | e
    · rw [e]
    · cases e
  refine pi_weak (RZ.pi_zipA hg hm (pa_cons h.pe (pa_cons h2.pe pa_nil (hn2 _ _)) (hn _ _)) (hn _ _) hpl) fun σ H R ⟨g, G, ρ, s0, xs, s', E, ee, q⟩ => ?_
  rw [evi] at ee
  obtain ⟨⟨x, s1⟩, e1, e2⟩ := bind_some ee
  obtain ⟨⟨y, s2⟩, e3, e4⟩ := bind_some e2
  refine two E e1 e3 fun v u H2 k2 r2 d1 d2 => ?_
  dsimp only at e4
  split at e4
  · cases e4
    obtain ⟨a, vs, rfl, ga, ea, r⟩ := d1.listE
    obtain ⟨b, us, rfl, gb, eb, r'⟩ := d2.listE
    exact ⟨a, b, vs, us, rfl, .inl ⟨SqL.of ea, SqL.of eb, q _ _ k2 r2 (it_zip ⟨ga, ea ▸ nofun⟩ ⟨gb, eb ▸ nofun⟩ ea eb r.live r'.live)⟩⟩
  · cases e4
    obtain ⟨a, o, vs, rfl, ea, nd, r⟩ := d1.tupE
    obtain ⟨b, o', us, rfl, eb, nd', r'⟩ := d2.tupE
    exact ⟨a, b, vs, us, rfl, .inr ⟨SqT.fz ea, SqT.fz eb, q _ _ k2 r2 (it_zipT ea eb r.live r'.live)⟩⟩
  · cases e4
end
end Os
end
section
set_option linter.all false
set_option maxRecDepth 100000
set_option maxHeartbeats 4000000
/-! OsL: targets; comprehensions. -/
namespace Os
open PySem PySem.Spec PyProof.Rows L2

/-- a target's store -/
def gM (K : PySem.W.Frag) : MT → TG
  | .nm i => gName i
  | .two a b => gTup K 2 (gCons (gM K a) (gCons (gM K b) gNil))
  | .three a b c => gTup K 3 (gCons (gM K a) (gCons (gM K b) (gCons (gM K c) gNil)))
  | .four a b c d => gTup K 4 (gCons (gM K a) (gCons (gM K b) (gCons (gM K c) (gCons (gM K d) gNil))))
theorem TrT.ns {N : List Str} {fn : Str → Bool} {sc : Scope} {e : Expr} {t : MT} (h : TrT N fn sc e t) : ∀ (es : List Expr) (env : Env), assignEach (e :: es) env = (false, assign e env) :: assignEach es env := by
  cases h <;> intro _ _ <;> rfl
theorem pg_ok {X : Cx} (hc : X.calm = true) (hN : X.N.Nodup) : ∀ {e : Expr} {t : MT}, TrT X.N X.fn X.env.scope e t → PG X e (gM X.K t)
  | _, _, .nm h1 h2 h3 => pg_name hN h1 h2 h3
  | _, _, .two a b => by
    have ha := a.ns
    have hb := b.ns
    exact pg_tup hc (pgs_cons (pg_ok hc hN a) (pgs_cons (pg_ok hc hN b) pgs_nil (by rw [hb]; rfl)) (by rw [ha]; rfl)) (by rw [ha, hb]; rfl) (by rw [ha, hb]; rfl)
  | _, _, .three a b c => by
    have ha := a.ns
    have hb := b.ns
    have hcc := c.ns
    exact pg_tup hc (pgs_cons (pg_ok hc hN a) (pgs_cons (pg_ok hc hN b) (pgs_cons (pg_ok hc hN c) pgs_nil (by rw [hcc]; rfl)) (by rw [hb]; rfl)) (by rw [ha]; rfl)) (by rw [ha, hb, hcc]; rfl) (by rw [ha, hb, hcc]; rfl)
  | _, _, .four a b c d => by
    have ha := a.ns
    have hb := b.ns
    have hcc := c.ns
    have hd := d.ns
    exact pg_tup hc (pgs_cons (pg_ok hc hN a) (pgs_cons (pg_ok hc hN b) (pgs_cons (pg_ok hc hN c) (pgs_cons (pg_ok hc hN d) pgs_nil (by rw [hd]; rfl)) (by rw [hcc]; rfl)) (by rw [hb]; rfl)) (by rw [ha]; rfl)) (by rw [ha, hb, hcc, hd]; rfl) (by rw [ha, hb, hcc, hd]; rfl)

theorem wipe_set {σ : L2.St} {i : Nat} {x : Option V} : ∀ {vs : List Nat}, i ∈ vs → wipe (σ.set i x) vs = wipe σ vs
  | v :: vs, h => by
    unfold wipe
    by_cases hi : i ∈ vs
    · rw [wipe_set hi]
    · have e : i = v := by
        rcases List.mem_cons.mp h with e | e
        · exact e
        · exact absurd e hi
      subst e
      apply List.ext_getElem?
      intro j
      by_cases hj : i = j
      · subst hj
        by_cases hl : i < σ.length
        · rw [List.getElem?_set_self (by rw [wipe_length, List.length_set]; exact hl), List.getElem?_set_self (by rw [wipe_length]; exact hl)]
        · rw [List.getElem?_eq_none (by rw [List.length_set, wipe_length, List.length_set]; omega), List.getElem?_eq_none (by rw [List.length_set, wipe_length]; omega)]
      · rw [List.getElem?_set_ne hj, List.getElem?_set_ne hj]
        by_cases hv : j ∈ vs
        · by_cases hl : j < σ.length
          · have f : ∀ (τ : L2.St), j < τ.length → ∀ {us : List Nat}, j ∈ us → (wipe τ us)[j]? = some none := by
              intro τ ht us
              induction us with
              | nil => intro z; cases z
              | cons u us ih =>
                intro z
                unfold wipe
                by_cases hu : u = j
                · subst hu
                  rw [List.getElem?_set_self (by rw [wipe_length]; exact ht)]
                · rw [List.getElem?_set_ne hu]
                  exact ih ((List.mem_cons.mp z).resolve_left fun e => hu e.symm)
            rw [f _ (by rw [List.length_set]; exact hl) hv, f _ hl hv]
          · rw [List.getElem?_eq_none (by rw [wipe_length, List.length_set]; omega), List.getElem?_eq_none (by rw [wipe_length]; omega)]
        · rw [wipe_out hv, wipe_out hv, List.getElem?_set_ne hj]
theorem wipe_some2 {σ : L2.St} {j : Nat} : ∀ {vs : List Nat}, j ∈ vs → j < σ.length → (wipe σ vs)[j]? = some none
  | u :: us, z, ht => by
    unfold wipe
    by_cases hu : u = j
    · subst hu
      rw [List.getElem?_set_self (by rw [wipe_length]; exact ht)]
    · rw [List.getElem?_set_ne hu]
      exact wipe_some2 ((List.mem_cons.mp z).resolve_left fun e => hu e.symm) ht
theorem wipe_twice (σ : L2.St) (vs : List Nat) : wipe (wipe σ vs) vs = wipe σ vs := by
  apply List.ext_getElem?
  intro j
  by_cases hv : j ∈ vs
  · by_cases hl : j < σ.length
    · rw [wipe_some2 hv hl, wipe_some2 hv (by rw [wipe_length]; exact hl)]
    · rw [List.getElem?_eq_none (by rw [wipe_length, wipe_length]; omega), List.getElem?_eq_none (by rw [wipe_length]; omega)]
  · rw [wipe_out hv, wipe_out hv]
theorem wipeS_length (ρ : LS) : ∀ vs : List Nat, (wipeS ρ vs).length = ρ.length
  | [] => rfl
  | v :: vs => by unfold wipeS; rw [List.length_set, wipeS_length ρ vs]
theorem wipeS_un {ρ : LS} {i : Nat} {x : SL} (hx : x ≠ SL.un) : ∀ {vs : List Nat}, (wipeS ρ vs)[i]? = some x → ρ[i]? = some x ∧ i ∉ vs
  | [], h => ⟨h, by simp⟩
  | v :: vs, h => by
    unfold wipeS at h
    by_cases hi : v = i
    · subst hi
      by_cases hv : v < (wipeS ρ vs).length
      · rw [List.getElem?_set_self hv] at h
        cases h
        exact absurd rfl hx
      · rw [List.getElem?_eq_none (by simpa using hv)] at h; cases h
    · rw [List.getElem?_set_ne hi] at h
      obtain ⟨h1, h2⟩ := wipeS_un hx h
      exact ⟨h1, by simp only [List.mem_cons, not_or]; exact ⟨fun e => hi e.symm, h2⟩⟩

section
variable {w : World} {g : Option (Addr × Addr)} {G : Addr → Prop} {H : Hp} {s : S1}
theorem ES.set {σ : L2.St} {ρ : LS} {i : Nat} {v : V} {x : D} (E : ES w g G σ H ρ s) (hi : i < ρ.length) (h : Dat w G H v x) : ES w g G (σ.set i (some v)) H (ρ.set i (.d x)) s where
  gok := E.gok
  src := E.src
  env := fun j y e => by
    by_cases hj : i = j
    · subst hj
      rw [List.getElem?_set_self hi] at e
      cases e
      exact ⟨v, List.getElem?_set_self (by rw [← E.len]; exact hi), h⟩
    · rw [List.getElem?_set_ne hj] at e
      rw [List.getElem?_set_ne hj]
      exact E.env j y e
  esrc := fun j e => by
    by_cases hj : i = j
    · subst hj
      rw [List.getElem?_set_self hi] at e
      cases e
    · rw [List.getElem?_set_ne hj] at e
      rw [List.getElem?_set_ne hj]
      exact E.esrc j e
  len := by rw [List.length_set, List.length_set, E.len]
theorem Dats.two {vs : List V} {a b : D} (r : Dats w G H vs [a, b]) : ∃ x y, vs = [x, y] ∧ Dat w G H x a ∧ Dat w G H y b := by
  cases r with
  | cons r1 r2 =>
    cases r2 with
    | cons r2 r3 =>
      cases r3
      exact ⟨_, _, rfl, r1, r2⟩
theorem Dats.three {vs : List V} {a b c : D} (r : Dats w G H vs [a, b, c]) : ∃ x y z, vs = [x, y, z] ∧ Dat w G H x a ∧ Dat w G H y b ∧ Dat w G H z c := by
  cases r with
  | cons r1 r2 =>
    obtain ⟨y, z, rfl, h1, h2⟩ := Dats.two r2
    exact ⟨_, _, _, rfl, r1, h1, h2⟩
theorem Dats.four {vs : List V} {a b c d : D} (r : Dats w G H vs [a, b, c, d]) : ∃ x y z t, vs = [x, y, z, t] ∧ Dat w G H x a ∧ Dat w G H y b ∧ Dat w G H z c ∧ Dat w G H t d := by
  cases r with
  | cons r1 r2 =>
    obtain ⟨y, z, t, rfl, h1, h2, h3⟩ := Dats.three r2
    exact ⟨_, _, _, _, rfl, r1, h1, h2, h3⟩
/-- a store by the slots -/
theorem gm_run {K : PySem.W.Frag} : ∀ (t : MT) {v : V} {x : D} {ρ ρ1 : LS} {σ : L2.St} {Q : L2.St → Hp → Prop}, bindT t x ρ = some ρ1 → Dat w G H v x → ES w g G σ H ρ s →
    (∀ σ2, ES w g G σ2 H ρ1 s → (∀ vs, (∀ i ∈ t.slots, i ∈ vs) → wipe σ2 vs = wipe σ vs) → Q σ2 H) → gM K t v σ H Q
  | .nm i, v, x, ρ, ρ1, σ, Q, hb, d, E, q => by
    unfold bindT at hb
    split at hb
    · rename_i hi
      cases hb
      exact q _ (E.set hi d) fun vs h => wipe_set (h i (by simp [MT.slots]))
    · cases hb
  | .two a b, v, x, ρ, ρ1, σ, Q, hb, d, E, q => by
    unfold bindT at hb
    split at hb
    · obtain ⟨ρ2, h1, h2⟩ := bind_some hb
      obtain ⟨p, o, vs, rfl, e, nd, r⟩ := d.tupE
      obtain ⟨x1, x2, rfl, d1, d2⟩ := r.two
      exact ⟨p, _, rfl, SqT.fz e, rfl, _, _, rfl, gm_run a h1 d1 E fun σ1 E1 w1 => ⟨_, _, rfl, gm_run b h2 d2 E1 fun σ2 E2 w2 => ⟨rfl, q σ2 E2 fun us h => by
        rw [w2 us fun i hi => h i (by simp [MT.slots, hi]), w1 us fun i hi => h i (by simp [MT.slots, hi])]⟩⟩⟩
    · cases hb
  | .three a b c, v, x, ρ, ρ1, σ, Q, hb, d, E, q => by
    unfold bindT at hb
    split at hb
    · obtain ⟨ρ3, hb, h3⟩ := bind_some hb
      obtain ⟨ρ2, h1, h2⟩ := bind_some hb
      obtain ⟨p, o, vs, rfl, e, nd, r⟩ := d.tupE
      obtain ⟨x1, x2, x3, rfl, d1, d2, d3⟩ := r.three
      exact ⟨p, _, rfl, SqT.fz e, rfl, _, _, rfl, gm_run a h1 d1 E fun σ1 E1 w1 => ⟨_, _, rfl, gm_run b h2 d2 E1 fun σ2 E2 w2 => ⟨_, _, rfl, gm_run c h3 d3 E2 fun σ3 E3 w3 => ⟨rfl, q σ3 E3 fun us h => by
        rw [w3 us fun i hi => h i (by simp [MT.slots, hi]), w2 us fun i hi => h i (by simp [MT.slots, hi]), w1 us fun i hi => h i (by simp [MT.slots, hi])]⟩⟩⟩⟩
    · cases hb
  | .four a b c f, v, x, ρ, ρ1, σ, Q, hb, d, E, q => by
    unfold bindT at hb
    split at hb
    · obtain ⟨ρ4, hb, h4⟩ := bind_some hb
      obtain ⟨ρ3, hb, h3⟩ := bind_some hb
      obtain ⟨ρ2, h1, h2⟩ := bind_some hb
      obtain ⟨p, o, vs, rfl, e, nd, r⟩ := d.tupE
      obtain ⟨x1, x2, x3, x4, rfl, d1, d2, d3, d4⟩ := r.four
      exact ⟨p, _, rfl, SqT.fz e, rfl, _, _, rfl, gm_run a h1 d1 E fun σ1 E1 w1 => ⟨_, _, rfl, gm_run b h2 d2 E1 fun σ2 E2 w2 => ⟨_, _, rfl, gm_run c h3 d3 E2 fun σ3 E3 w3 => ⟨_, _, rfl, gm_run f h4 d4 E3 fun σ4 E4 w4 => ⟨rfl, q σ4 E4 fun us h => by
        rw [w4 us fun i hi => h i (by simp [MT.slots, hi]), w3 us fun i hi => h i (by simp [MT.slots, hi]), w2 us fun i hi => h i (by simp [MT.slots, hi]), w1 us fun i hi => h i (by simp [MT.slots, hi])]⟩⟩⟩⟩⟩
    · cases hb
/-- one item -/
theorem gm_item {K : PySem.W.Frag} {pr : Bool} (t : MT) (ht : pr = true → ∀ i, t ≠ .nm i) {v : V} {x : D} {ρ ρ1 : LS} {σ : L2.St} {Q : L2.St → Hp → Prop} (hb : bindT t x ρ = some ρ1) (d : ItemR pr w G H v x) (E : ES w g G σ H ρ s)
    (q : ∀ σ2, ES w g G σ2 H ρ1 s → (∀ vs, (∀ i ∈ t.slots, i ∈ vs) → wipe σ2 vs = wipe σ vs) → Q σ2 H) : gM K t v σ H Q := by
  rcases d with d | ⟨hp, T, x1, x2, dx, dy, rfl, e, d1, d2, rfl⟩
  · exact gm_run t hb d E q
  · cases t with
    | nm i => exact absurd rfl (ht hp i)
    | two a b =>
      rw [bindT] at hb
      obtain ⟨ρ2, h1, h2⟩ := bind_some hb
      exact ⟨T, _, rfl, SqT.of e, rfl, _, _, rfl, gm_run a h1 d1 E fun σ1 E1 w1 => ⟨_, _, rfl, gm_run b h2 d2 E1 fun σ2 E2 w2 => ⟨rfl, q σ2 E2 fun us h => by
        rw [w2 us fun i hi => h i (by simp [MT.slots, hi]), w1 us fun i hi => h i (by simp [MT.slots, hi])]⟩⟩⟩
    | three a b c => simp [bindT] at hb
    | four a b c f => simp [bindT] at hb
end

section
variable {w : World} {K : PySem.W.Frag} {Φ : List FE} {g : Option (Addr × Addr)} {G : Addr → Prop} {H H1 H2 H' : Hp} {s s1 : S1}
theorem SrcR.upd {p : Addr} {o : HO} (r : SrcR g H s) (n : ¬ Own2 g p) : SrcR g (upd H p o) s := by
  unfold SrcR at r ⊢
  split at r
  · trivial
  · rename_i a c S
    have h1 : a ≠ p := fun z => n (.inl z.symm)
    have h2 : c ≠ p := fun z => n (.inr z.symm)
    exact ⟨by rw [upd_ne h1]; exact r.1, by rw [upd_ne h2]; exact r.2⟩
  · exact r.elim
theorem Same.dead {b : Addr} (h : Same H H1) (e : H1 b = none) : H b = none := by
  cases q : H b with
  | none => rfl
  | some o =>
    rw [h b o q] at e
    cases e
/-- a comprehension's turns -/
theorem comp_run {pr : Bool} {t : MT} {fs : MEs} {me : ME} {own : List Nat} {σ : L2.St} {ρ : LS} {xs ys : List D} {s' : S1} {J : It} {Q : VK} {Dn : Addr} (ht : pr = true → ∀ i, t ≠ .nm i) (hsl : ∀ i ∈ t.slots, i ∈ own) (E : ES w g G σ H ρ s) (k1 : Keep g H H1) (r1 : SrcR g H1 s1) (hJ : ItOk pr w (fun b => Up G H b ∧ H1 b ≠ none) H1 J xs) (hD : H1 Dn = none)
    (hr : compRun (evt Φ fs) (ev Φ me) t (wipeS ρ own) xs s1 = some (ys, s')) (hz : ys.length ≤ sizeLine) (q : ∀ H', Ps w g G H H' (.ref Dn) (.list ys) s' → NewL w G H H' (.ref Dn) (.list ys) → Q (.ref Dn) H') :
    ∃ W : Nat → Nat → Hp → Prop, (∃ m, W 0 m (upd H1 Dn (.lst []))) ∧ ∀ i m H, W i m H →
      (J.stop i H ∧ Q (.ref Dn) H) ∨ (J.go i H ∧ ∃ Nx : Hp → Prop, (∀ H', Nx H' → ∃ m', m' < m ∧ W (i + 1) m' H') ∧ ∀ x H', J.yld i H x H' → gM K t x (wipe σ own) H' fun σ2 H2 => wipe σ2 own = wipe σ own ∧ tFs w Φ fs σ2 H2 fun b H3 =>
        if b = true then tE w Φ me σ2 H3 fun y H4 => ∃ acc, H4 Dn = some (.lst acc) ∧ acc.length < sizeLine ∧ Nx (upd H4 Dn (.lst (acc ++ [y]))) else Nx H3) := by
  have nD : ¬ Own2 g Dn := fun z => r1.there z hD
  have gok1 : ∀ b, Up (Up G H) H1 b → ¬ Own2 g b := Up.gok r1 (Up.gok E.src E.gok)
  have aH : H Dn = none := k1.alive r1 hD
  refine lc_it hJ (fun i Hc => ∃ (acc : List V) (ds rest : List D) (si : S1), Hc Dn = some (.lst acc) ∧ Keep g H1 Hc ∧ SrcR g Hc si ∧ Dats w (fun b => Up (Up G H) H1 b ∧ b ≠ Dn) Hc acc ds ∧ compRun (evt Φ fs) (ev Φ me) t (wipeS ρ own) (xs.drop i) si = some (rest, s') ∧ ds ++ rest = ys)
    ⟨[], [], ys, s1, upd_same, fun b o e n => by rw [upd_ne (ne_of_none e hD)]; exact e, r1.upd nD, .nil, by simpa using hr, rfl⟩ (fun i Hc hi ⟨acc, ds, rest, si, h1, h2, h3, h4, h5, h6⟩ => ?_) (fun i x Hc Hx hi ⟨acc, ds, rest, si, h1, h2, h3, h4, h5, h6⟩ hy => ?_) (fun Hc ⟨acc, ds, rest, si, h1, h2, h3, h4, h5, h6⟩ => ?_)
  · exact ⟨fun b o gb e => h2 b o e (gok1 b (.inl gb.1)), fun b o xs e => h2 b _ e (r1.tup e)⟩
  · obtain ⟨sm, d, hd, it⟩ := hy
    have hdr : xs.drop i = d :: xs.drop (i + 1) := by
      obtain ⟨hl, hv⟩ := List.getElem?_eq_some_iff.mp hd
      rw [← hv]
      exact List.drop_eq_getElem_cons hl
    rw [hdr, compRun] at h5
    obtain ⟨ρ1, b1, h5⟩ := bind_some h5
    obtain ⟨⟨b, sb⟩, b2, h5⟩ := bind_some h5
    dsimp only at h5
    -- the slots at the turn's start
    have lift : ∀ {v : V} {x : D}, Dat w G H v x → Dat w (fun b => Up (Up G H) H1 b ∧ b ≠ Dn) Hx v x := fun {v x} r => by
      have r0 := ((r.live.keep k1 E.src fun b z => E.gok b z.1).keep h2 r1 fun b z => E.gok b z.1).same sm
      exact r0.mono fun b z => ⟨.inl (.inl z.1), fun e => z.2 (e ▸ aH)⟩
    have E0 : ES w g (fun b => Up (Up G H) H1 b ∧ b ≠ Dn) (wipe σ own) Hx (wipeS ρ own) si := {
      gok := fun b z => gok1 b z.1
      src := h3.same sm
      env := fun j y e => by
        obtain ⟨e1, e2⟩ := wipeS_un (by simp) e
        obtain ⟨v, hv, hdv⟩ := E.env j y e1
        exact ⟨v, by rw [wipe_out e2]; exact hv, lift hdv⟩
      esrc := fun j e => by
        obtain ⟨e1, e2⟩ := wipeS_un (by simp) e
        obtain ⟨a, c, hg, hv⟩ := E.esrc j e1
        exact ⟨a, c, hg, by rw [wipe_out e2]; exact hv⟩
      len := by rw [wipeS_length, wipe_length, E.len] }
    have it' : ItemR pr w (fun b => Up (Up G H) H1 b ∧ b ≠ Dn) Hx x d := by
      have f : ∀ {v : V} {x : D}, Dat w (fun b => Up G H b ∧ H1 b ≠ none) Hx v x → Dat w (fun b => Up (Up G H) H1 b ∧ b ≠ Dn) Hx v x := fun {v x} r => r.mono fun b z => ⟨.inl z.1, fun e => z.2 (e ▸ hD)⟩
      rcases it with r | ⟨hp, T, x1, x2, dx, dy, e0, e1, r, r', e2⟩
      · exact .inl (f r)
      · exact .inr ⟨hp, T, x1, x2, dx, dy, e0, e1, f r, f r', e2⟩
    refine gm_item t ht b1 it' E0 fun σ2 E1 hw => ⟨by rw [hw own hsl, wipe_twice], ?_⟩
    have x1 : Hx Dn = some (.lst acc) := sm _ _ h1
    refine ⟨g, _, ρ1, si, b, sb, E1, b2, fun H3 k3 r3 => ?_⟩
    have x3 : H3 Dn = some (.lst acc) := k3 _ _ x1 nD
    have k13 : Keep g H1 H3 := (h2.trans (Keep.of sm)).trans k3
    have a3 : Dats w (fun b => Up (Up G H) H1 b ∧ b ≠ Dn) H3 acc ds := (h4.same sm).keep k3 E1.src fun b z => gok1 b z.1
    cases b with
    | false =>
      rw [if_neg (by simp)] at h5
      dsimp only
      rw [if_neg (by simp)]
      exact ⟨acc, ds, rest, sb, x3, k13, r3, a3, h5, h6⟩
    | true =>
      rw [if_pos rfl] at h5
      dsimp only
      rw [if_pos rfl]
      obtain ⟨⟨y, s2⟩, b3, h5⟩ := bind_some h5
      obtain ⟨⟨rest2, s3⟩, b4, h5⟩ := map_some h5
      cases h5
      refine ⟨g, _, ρ1, sb, y, s2, E1.step k3 r3, b3, fun v H4 p _ => ?_⟩
      have x4 : H4 Dn = some (.lst acc) := p.keep _ _ x3 nD
      have hlen : acc.length < sizeLine := by
        have e1 := h4.length
        have e2 := congrArg List.length h6
        rw [List.length_append, List.length_cons] at e2
        omega
      have k14 : Keep g H1 H4 := k13.trans p.keep
      have up : ∀ {vs : List V} {es : List D}, Dats w (fun b => Up (Up G H) H1 b ∧ b ≠ Dn) H4 vs es → Dats w (fun b => Up (Up G H) H1 b ∧ b ≠ Dn) (upd H4 Dn (.lst (acc ++ [v]))) vs es := fun {vs es} r =>
        r.go (fun b o z e => ⟨by rw [upd_ne z.2]; exact e, z⟩) fun b o us e => by
          rw [upd_ne fun z => by rw [z, x4] at e; cases e]
          exact e
      have dv : Dat w (fun b => Up (Up G H) H1 b ∧ b ≠ Dn) H4 v y := p.dat.mono fun b z => by
        rcases z with (z | z) | z
        · exact z
        · have z1 : Hc b = none := Same.dead sm z
          exact ⟨.inr (h2.alive h3 z1), fun e => by rw [e, h1] at z1; cases z1⟩
        · have z0 : Hx b = none := k3.alive r3 z
          have z1 : Hc b = none := Same.dead sm z0
          exact ⟨.inr (h2.alive h3 z1), fun e => by rw [e, h1] at z1; cases z1⟩
      refine ⟨acc, x4, hlen, acc ++ [v], ds ++ [y], rest2, s2, upd_same, fun b o e n => by rw [upd_ne (ne_of_none e hD)]; exact k14 b o e n, p.src.upd nD, ?_, b4, by rw [List.append_assoc]; exact h6⟩
      exact up ((a3.keep p.keep r3 fun b z => gok1 b z.1).append (.cons dv .nil))
  · have e0 : xs.drop xs.length = [] := List.drop_length ..
    rw [e0, compRun] at h5
    cases h5
    rw [List.append_nil] at h6
    subst h6
    have dd : Dats w (fun b => Up G H b ∧ b ≠ Dn) Hc acc ds := h4.mono fun b z => ⟨Up.up k1 r1 b z.1, z.2⟩
    exact q Hc ⟨k1.trans h2, h3, .list (.inr aH) h1 (dd.mono fun b z => z.1)⟩ ⟨Dn, acc, ds, rfl, rfl, aH, h1, dd⟩
end
end Os
end
section
set_option linter.all false
set_option maxRecDepth 100000
set_option maxHeartbeats 4000000
/-! OsM: every expression of the small language, in a def of any context. -/
namespace Os
open PySem PySem.Spec PyProof.Rows L2

section
variable {X : Cx} {Φ : List FE} {gk : List (Str × D)} {k : Nat}
theorem lc_of {w : World} {K : PySem.W.Frag} {N : List Str} {fn : Str → Bool} {sc : Scope} {tg : Expr} {own : List (Str × Nat)} {me : ME} {t : MT} {it : MI} {fs : MEs} (ht : TrT N fn sc tg t) (hsl : (t.slots.all fun i => (own.map (·.2)).contains i) = true) {σ : L2.St} {H : Hp} {Q : VK}
    (h : tE w Φ (.comp me t it fs (own.map (·.2))) σ H Q) : tLc (tI (isTup tg) w Φ it) (gM K t) (tFs w Φ fs) (tE w Φ me) (own.map (·.2)) σ H Q := by
  obtain ⟨g, G, ρ, s, d, s', E, ee, q⟩ := h
  rw [ev] at ee
  obtain ⟨⟨xs, s1⟩, e1, e2⟩ := bind_some ee
  obtain ⟨⟨ys, s2⟩, e3, e4⟩ := bind_some e2
  dsimp only at e4
  split at e4
  · cases e4
    rename_i hz
    refine ⟨g, G, ρ, s, xs, s1, E, e1, fun J H1 k1 r1 hJ Dn hD => ?_⟩
    refine comp_run (fun h i z => ?_) (fun i hi => ?_) E k1 r1 hJ hD e3 hz fun H' p n => q _ _ p fun _ => n
    · subst z
      cases ht
      cases h
    · have := List.all_eq_true.mp hsl i hi
      simpa using this
  · cases e4
theorem s_comp (C : XC X Φ gk k) {N : List Str} {sc : Scope} (hN : X.N = N) (hsc : X.env.scope = sc) {elt tg iter : Expr} {ifs : List Expr} {scope : Scope} {own : List (Str × Nat)} {pos : Pos} {me : ME} {t : MT} {it : MI} {fs : MEs}
    (hb : blkC N sc scope own = true) (ht : TrT N (fun x => scope.names.lookup x == some .cell) (relS scope sc) tg t) (hsl : (t.slots.all fun i => (own.map (·.2)).contains i) = true)
    (hi : PI X tg iter (tI (isTup tg) X.w Φ it)) (hf : ∀ Y : Cx, XC Y Φ gk k → Y.N = N → Y.w = X.w → Y.env.scope = relS scope sc → PTs Y ifs (tFs Y.w Φ fs)) (he : ∀ Y : Cx, XC Y Φ gk k → Y.N = N → Y.w = X.w → Y.env.scope = relS scope sc → Snd Y Φ elt me)
    (hs : ∀ env x, foldedSetIterable iter env x = pure x) : Snd X Φ (.ListComp elt [⟨tg, iter, ifs, 0⟩] scope pos) (.comp me t it fs (own.map (·.2))) := by
  subst hN hsc
  have pg : ∀ (s : Shared) (H : Hp) (L : Addr) (cl : List (Str × Addr)) (fp : List Addr), PG (X.blk s H scope (compEnvC scope cl L X.env) fp) tg (gM X.K t) := fun s H L cl fp =>
    pg_ok (X := X.blk s H scope (compEnvC scope cl L X.env) fp) C.calm C.nd ht
  have pel : ∀ (s : Shared) (H : Hp) (L : Addr) (cl : List (Str × Addr)) (fp : List Addr), PE (X.blk s H scope (compEnvC scope cl L X.env) fp) elt (tE X.w Φ me) := fun s H L cl fp => (he (X.blk s H scope (compEnvC scope cl L X.env) fp) C.blk rfl rfl rfl).pe
  have ptl : ∀ (s : Shared) (H : Hp) (L : Addr) (cl : List (Str × Addr)) (fp : List Addr), PTs (X.blk s H scope (compEnvC scope cl L X.env) fp) ifs (tFs X.w Φ fs) := fun s H L cl fp => hf (X.blk s H scope (compEnvC scope cl L X.env) fp) C.blk rfl rfl rfl
  refine mkS (pe_weak (pe_lc C.calm C.nd hi (blkOk_by hb) pg ptl pel (hs _)) fun σ H Q q => lc_of ht hsl q) fun _ => rfl
end

mutual
theorem snd {Φ : List FE} {gk : List (Str × D)} {k : Nat} {N : List Str} {sc : Scope} {e : Expr} {m : ME} : TrE Φ gk N sc e m → ∀ X : Cx, XC X Φ gk k → X.N = N → X.env.scope = sc → Snd X Φ e m
  | .nm h1 h2 h3 h4, X, C, hN, hs => s_nm (by rw [hN]; exact h1) (by rw [hs]; exact h2) h3 h4
  | .gl h1 h2 h3, X, C, hN, hs => s_gl C (by rw [hs]; exact h1) h2 h3
  | .ci, X, C, hN, hs => s_k pe_int rfl fun _ => rfl
  | .cb, X, C, hN, hs => s_k pe_bl rfl fun _ => rfl
  | .cn, X, C, hN, hs => s_k pe_non trivial fun _ => rfl
  | .cs, X, C, hN, hs => s_k pe_str rfl fun _ => rfl
  | .tup h, X, C, hN, hs => s_tup (sndEs h X C hN hs)
  | .lst h, X, C, hN, hs => s_lst (sndEs h X C hN hs)
  | .op o a b, X, C, hN, hs => s_op o (snd a X C hN hs) (snd b X C hN hs)
  | .neg a, X, C, hN, hs => s_neg (snd a X C hN hs)
  | .cmp o a b h, X, C, hN, hs => s_cmp C o (snd a X C hN hs) (snd b X C hN hs) h
  | .isN a, X, C, hN, hs => s_isN (snd a X C hN hs)
  | .notN a, X, C, hN, hs => s_notN (snd a X C hN hs)
  | .chn o q a b c h, X, C, hN, hs => s_chn C o q (snd a X C hN hs) (snd b X C hN hs) (snd c X C hN hs) h
  | .bo h, X, C, hN, hs => s_bo (sndB h X C hN hs)
  | .not_ a, X, C, hN, hs => s_not (snd a X C hN hs)
  | .ite c a b, X, C, hN, hs => s_ite (snd c X C hN hs) (snd a X C hN hs) (snd b X C hN hs)
  | .idx a i h, X, C, hN, hs => s_idx (snd a X C hN hs) (snd i X C hN hs) h
  | .slc a lo hi, X, C, hN, hs => s_slc (snd a X C hN hs) (sndO lo X C hN hs) (sndO hi X C hN hs)
  | .revl a, X, C, hN, hs => s_revl (snd a X C hN hs)
  | .call f h1 h2 h3 h4 h5, X, C, hN, hs => s_call C f (by rw [hs]; exact h1) h2 h3 h4 (sndA h5 X C hN hs)
  | .b1 f h1 a, X, C, hN, hs => s_b1 C f (by rw [hs]; exact h1) (snd a X C hN hs) a.ns
  | .b2 f h1 a b, X, C, hN, hs => s_b2 C f (by rw [hs]; exact h1) (snd a X C hN hs) (snd b X C hN hs) a.ns b.ns
  | .isi t h1 h2 a, X, C, hN, hs => s_isi C t (by rw [hs]; exact h1) (by rw [hs]; exact h2) (snd a X C hN hs) a.ns
  | .index o a h1 h2, X, C, hN, hs => s_index C (snd o X C hN hs) (snd a X C hN hs) a.ns h1 h2
  | .comp hb ht hsl hi hf he hse, X, C, hN, hs => s_comp C hN hs hb ht hsl (sndI hi X C hN hs _ rfl) (fun Y CY eN ew es => sndF hf Y CY eN es) (fun Y CY eN ew es => snd he Y CY eN es) hse
theorem sndB {Φ : List FE} {gk : List (Str × D)} {k : Nat} {N : List Str} {sc : Scope} {o : BoolOp} {es : List Expr} {m : ME} : TrB Φ gk N sc o es m → ∀ X : Cx, XC X Φ gk k → X.N = N → X.env.scope = sc → SndB X Φ o es m
  | .one a, X, C, hN, hs => b_one (snd a X C hN hs)
  | .cons a r, X, C, hN, hs => b_cons (snd a X C hN hs) (sndB r X C hN hs)
theorem sndEs {Φ : List FE} {gk : List (Str × D)} {k : Nat} {N : List Str} {sc : Scope} {es : List Expr} {ms : MEs} : TrEs Φ gk N sc es ms → ∀ X : Cx, XC X Φ gk k → X.N = N → X.env.scope = sc → PA X es (tEs X.w Φ ms)
  | .nil, X, C, hN, hs => p_nil
  | .cons e r, X, C, hN, hs => p_cons (snd e X C hN hs) e.ns (sndEs r X C hN hs)
  | .star e r, X, C, hN, hs => p_star (snd e X C hN hs) (sndEs r X C hN hs)
theorem sndA {Φ : List FE} {gk : List (Str × D)} {k : Nat} {N : List Str} {sc : Scope} {es : List Expr} {ms : MAs} : TrA Φ gk N sc es ms → ∀ X : Cx, XC X Φ gk k → X.N = N → X.env.scope = sc → ArgOk X Φ es ms
  | .nil, X, C, hN, hs => ⟨q_nil, (fun _ y h => nomatch h), (fun _ _ h => nomatch h), fun _ => rfl⟩
  | .cons e r, X, C, hN, hs => by
    have R := sndA r X C hN hs
    refine ⟨q_cons (snd e X C hN hs) e.ns R.pa, fun env y h => ?_, fun a b h env => ?_, fun h => nomatch h⟩
    · rw [e.ns] at h
      rcases List.mem_cons.mp h with z | z
      · rw [z]
      · exact R.plain env y z
    · cases h
      exact e.ns _ _
  | .src h1 h2 h3 h4 r, X, C, hN, hs => by
    have R := sndA r X C hN hs
    refine ⟨q_src (by rw [hN]; exact h1) (by rw [hs]; exact h2) h3 h4 R.pa, fun env y h => ?_, fun a b h env => ?_, fun h => nomatch h⟩
    · have h' : y = (false, _) ∨ y ∈ starEach _ env := List.mem_cons.mp h
      rcases h' with z | z
      · rw [z]
      · exact R.plain env y z
    · cases h
      rfl
theorem sndF {Φ : List FE} {gk : List (Str × D)} {k : Nat} {N : List Str} {sc : Scope} {es : List Expr} {ms : MEs} : TrF Φ gk N sc es ms → ∀ X : Cx, XC X Φ gk k → X.N = N → X.env.scope = sc → PTs X es (tFs X.w Φ ms)
  | .nil, X, C, hN, hs => ⟨fun pins s σ H Q I ⟨g, G, ρ, t, b, s', E, ee, q⟩ => by
    cases ee
    exact pts_nil.run pins s σ H Q I (q H Keep.refl E.src)⟩
  | .one e, X, C, hN, hs => ⟨fun pins s σ H Q I ⟨g, G, ρ, t, b, s', E, ee, q⟩ => by
    rw [evt] at ee
    obtain ⟨⟨x, s1⟩, e1, e2⟩ := bind_some ee
    obtain ⟨y, e3, e4⟩ := bind_some e2
    refine (pts_one (snd e X C hN hs).pt).run pins s σ H Q I ⟨g, G, ρ, t, x, s1, y, E, e1, e3, fun H' k' r' => ?_⟩
    cases y with
    | true =>
      cases e4
      exact q H' k' r'
    | false =>
      cases e4
      exact q H' k' r'⟩
theorem sndO {Φ : List FE} {gk : List (Str × D)} {k : Nat} {N : List Str} {sc : Scope} {e : Option Expr} {m : MO} : TrO Φ gk N sc e m → ∀ X : Cx, XC X Φ gk k → X.N = N → X.env.scope = sc → PO X e (tMO X.w Φ m)
  | .no, X, C, hN, hs => o_no
  | .yes e, X, C, hN, hs => o_yes (snd e X C hN hs)
theorem sndI {Φ : List FE} {gk : List (Str × D)} {k : Nat} {N : List Str} {sc : Scope} {b : Bool} {e : Expr} {m : MI} : TrI Φ gk N sc b e m → ∀ X : Cx, XC X Φ gk k → X.N = N → X.env.scope = sc → ∀ tg : Expr, isTup tg = b → PI X tg e (tI b X.w Φ m)
  | .seq e, X, C, hN, hs => fun tg h => i_seq (snd e X C hN hs)
  | .range1 h1 e, X, C, hN, hs => fun tg h => i_range1 C (by rw [hs]; exact h1) (snd e X C hN hs) e.ns
  | .range2 h1 e f, X, C, hN, hs => fun tg h => i_range2 C (by rw [hs]; exact h1) (snd e X C hN hs) (snd f X C hN hs) e.ns f.ns
  | .enum h1 e, X, C, hN, hs => fun tg h => by
    cases tg with
    | Tuple => exact i_enum C (by rw [hs]; exact h1) (snd e X C hN hs) e.ns
    | _ => cases h
  | .zip h1 e f, X, C, hN, hs => fun tg h => by
    cases tg with
    | Tuple => exact i_zip C (by rw [hs]; exact h1) (snd e X C hN hs) (snd f X C hN hs) e.ns f.ns
    | _ => cases h
end
end Os
end
section
set_option linter.all false
set_option maxRecDepth 100000
set_option maxHeartbeats 4000000
/-! OsN: statements of the small language, as data, and what they do. No Python and no heap here. -/
namespace Os
open PySem PySem.Spec PyProof.Rows L2

/-- what a slot holds: nothing known; data that stays; a list of its own; a list of lists of its own; the source -/
inductive SS where
  | un | frz (x : D) | own (xs : List D) | own2 (xss : List (List D)) | src
  deriving Inhabited
abbrev LSS := List SS
def SS.f : SS → SL
  | .frz x => .d x
  | .src => .src
  | _ => .un
def SS.r : SS → SL
  | .frz x => .d x
  | .own xs => .d (.list xs)
  | .own2 xss => .d (.list (xss.map .list))
  | .src => .src
  | .un => .un
/-- f: of what stays; i: of anything, no list in it; o: of what stays, a new list; p: of anything, a new list, no list in it; q: a new list of new lists -/
inductive Mode where
  | f | i | o | p | q
  deriving DecidableEq
def vw : Mode → LSS → LS
  | .f, ρ => ρ.map SS.f
  | .i, ρ => ρ.map SS.r
  | .o, ρ => ρ.map SS.f
  | .p, ρ => ρ.map SS.r
  | .q, ρ => ρ.map SS.f
def listsOf : List D → Option (List (List D))
  | [] => some []
  | .list xs :: r => (listsOf r).map (xs :: ·)
  | _ :: _ => none
def allNew (Φ : List FE) : MEs → Bool
  | .nil => true
  | .cons e r => newE Φ e && allNew Φ r
  | .star _ _ => false
def slotOf (Φ : List FE) : Mode → ME → D → Option SS
  | .f, _, d => some (.frz d)
  | .i, _, d => if imm d = true then some (.frz d) else none
  | .o, e, d => if newE Φ e = true then match d with
    | .list xs => some (.own xs)
    | _ => none else none
  | .p, e, d => if newE Φ e = true then match d with
    | .list xs => if immAll xs = true then some (.own xs) else none
    | _ => none else none
  | .q, .lst es, d => if allNew Φ es = true then match d with
    | .list xs => (listsOf xs).map .own2
    | _ => none else none
  | .q, _, _ => none
def evM (Φ : List FE) (md : Mode) (e : ME) (ρ : LSS) (s : S1) : Option (SS × S1) := (ev Φ e (vw md ρ) s).bind fun (d, s1) => (slotOf Φ md e d).map fun x => (x, s1)

mutual
inductive MS where
  | set (i : Nat) (md : Mode) (e : ME)
  | par2 (i j : Nat) (m1 m2 : Mode) (e1 e2 : ME)
  | unp (t : MT) (md : Mode) (e : ME)
  | app (i : Nat) (md : Mode) (e : ME)
  | ret (e : ME)
  | retO (i : Nat)
  | ite (c : ME) (a b : MSs)
  | for_ (t : MT) (it : MI) (b : MSs)
  | brk
  | cnt
  | pass
  | bad
  | drop (e : ME)
  | spoil (i j : Nat)
  | frz (i : Nat)
inductive MSs where
  | nil
  | cons (m : MS) (r : MSs)
end
inductive Res where
  | nx (ρ : LSS) (s : S1)
  | bk (ρ : LSS) (s : S1)
  | ct (ρ : LSS) (s : S1)
  | rt (d : D) (s : S1)

/-- a target's slots -/
def bindS : MT → D → LSS → Option LSS
  | .nm i, x, ρ => if i < ρ.length then some (ρ.set i (.frz x)) else none
  | .two a b, x, ρ => match x with
    | .tuple [p, q] => (bindS a p ρ).bind (bindS b q)
    | _ => none
  | .three a b c, x, ρ => match x with
    | .tuple [p, q, r] => ((bindS a p ρ).bind (bindS b q)).bind (bindS c r)
    | _ => none
  | .four a b c d, x, ρ => match x with
    | .tuple [p, q, r, t] => (((bindS a p ρ).bind (bindS b q)).bind (bindS c r)).bind (bindS d t)
    | _ => none

def forRun (f : LSS → S1 → Option Res) (t : MT) : List D → LSS → S1 → Option Res
  | [], ρ, s => some (.nx ρ s)
  | x :: xs, ρ, s => (bindS t x ρ).bind fun ρ1 => (f ρ1 s).bind fun r => match r with
    | .nx ρ2 s2 => forRun f t xs ρ2 s2
    | .ct ρ2 s2 => forRun f t xs ρ2 s2
    | .bk ρ2 s2 => some (.nx ρ2 s2)
    | .rt d s2 => some (.rt d s2)

mutual
def run (Φ : List FE) : MS → LSS → S1 → Option Res
  | .set i md e, ρ, s => (evM Φ md e ρ s).bind fun (x, s1) => if i < ρ.length then some (.nx (ρ.set i x) s1) else none
  | .par2 i j m1 m2 e1 e2, ρ, s => (evM Φ m1 e1 ρ s).bind fun (x, s1) => (evM Φ m2 e2 ρ s1).bind fun (y, s2) => if i < ρ.length ∧ j < ρ.length ∧ i ≠ j then some (.nx ((ρ.set i x).set j y) s2) else none
  | .unp t md e, ρ, s => (evM Φ md e ρ s).bind fun (x, s1) => match x with
    | .frz d => (bindS t d ρ).map fun ρ1 => .nx ρ1 s1
    | _ => none
  | .app i md e, ρ, s => match ρ[i]? with
    | some (.own xs) => (evM Φ md e ρ s).bind fun (x, s1) => match x with
      | .frz d => if xs.length < sizeLine then some (.nx (ρ.set i (.own (xs ++ [d]))) s1) else none
      | _ => none
    | _ => none
  | .ret e, ρ, s => (ev Φ e (ρ.map SS.r) s).map fun (d, s1) => .rt d s1
  | .retO i, ρ, s => match ρ[i]? with
    | some (.own xs) => some (.rt (.list xs) s)
    | _ => none
  | .ite c a b, ρ, s => (ev Φ c (ρ.map SS.r) s).bind fun (x, s1) => (tru x).bind fun t => if t = true then runs Φ a ρ s1 else runs Φ b ρ s1
  | .for_ t it b, ρ, s => (evi Φ it (ρ.map SS.f) s).bind fun (xs, s1) => forRun (runs Φ b) t xs ρ s1
  | .brk, ρ, s => some (.bk ρ s)
  | .cnt, ρ, s => some (.ct ρ s)
  | .pass, ρ, s => some (.nx ρ s)
  | .bad, _, _ => none
  | .drop e, ρ, s => (ev Φ e (ρ.map SS.r) s).map fun (_, s1) => .nx ρ s1
  | .spoil i j, ρ, s => match ρ[i]? with
    | some (.own2 xss) => if (xss.all fun xs => decide (xs.length < sizeLine)) = true ∧ i ≠ j ∧ j < ρ.length then some (.nx ((ρ.set i .un).set j .un) s) else none
    | _ => none
  | .frz i, ρ, s => match ρ[i]? with
    | some (.own xs) => some (.nx (ρ.set i (.frz (.list xs))) s)
    | some (.own2 xss) => some (.nx (ρ.set i (.frz (.list (xss.map .list)))) s)
    | _ => none
def runs (Φ : List FE) : MSs → LSS → S1 → Option Res
  | .nil, ρ, s => some (.nx ρ s)
  | .cons m r, ρ, s => (run Φ m ρ s).bind fun x => match x with
    | .nx ρ1 s1 => runs Φ r ρ1 s1
    | x => some x
end

mutual
/-- what is returned is always a new list -/
def newM (Φ : List FE) : MS → Bool
  | .ret e => newE Φ e
  | .ite _ a b => newMs Φ a && newMs Φ b
  | .for_ _ _ b => newMs Φ b
  | _ => true
def newMs (Φ : List FE) : MSs → Bool
  | .nil => true
  | .cons m r => newM Φ m && newMs Φ r
end

/-- a def by its statements: n slots, the arguments first -/
def argS : SL → SS
  | .un => .un
  | .d x => .frz x
  | .src => .src
def semOf (Φ : List FE) (fr : Bool) (n : Nat) (ms : MSs) : FS := fun as s => (runs Φ ms (as.map argS ++ List.replicate (n - as.length) .un) s).bind fun r => match r with
  | .rt d s1 => some (d, s1)
  | .nx _ s1 => if fr = true then none else some (.none, s1)
  | _ => none
end Os
end
section
set_option linter.all false
set_option maxRecDepth 100000
set_option maxHeartbeats 4000000
/-! OsO: a def's state while its body runs. -/
namespace Os
open PySem PySem.Spec PyProof.Rows L2

def SlotR (w : World) (g : Option (Addr × Addr)) (F : Addr → Prop) (H : Hp) (as : List Addr) (o : Option (Option V)) : SS → Prop
  | .un => True
  | .frz d => ∃ v, o = some (some v) ∧ Dat w F H v d
  | .own xs => ∃ a vs, as = [a] ∧ o = some (some (.ref a)) ∧ H a = some (.lst vs) ∧ Dats w F H vs xs
  | .own2 xss => ∃ a ps, as = a :: ps ∧ (a :: ps).Nodup ∧ o = some (some (.ref a)) ∧ H a = some (.lst (ps.map V.ref)) ∧ Paired (fun p xs => ∃ vs, H p = some (.lst vs) ∧ Dats w F H vs xs) ps xss
  | .src => ∃ a c, g = some (a, c) ∧ o = some (some (.ref a))

structure SR (w : World) (g : Option (Addr × Addr)) (G0 : Addr → Prop) (H0 : Hp) (F : Addr → Prop) (A : Nat → List Addr) (σ : L2.St) (H : Hp) (ρ : LSS) (s : S1) : Prop where
  src0 : ∃ s0, SrcR g H0 s0
  sub : ∀ b, F b → Up G0 H0 b
  gok : ∀ b, F b → ¬ Own2 g b
  keep : Keep g H0 H
  src : SrcR g H s
  len : ρ.length = σ.length
  slot : ∀ i x, ρ[i]? = some x → SlotR w g F H (A i) σ[i]? x
  new : ∀ i, ∀ b ∈ A i, H0 b = none ∧ ¬ F b
  dis : ∀ i j b, b ∈ A i → b ∈ A j → i = j
  alive : ∀ i, ∀ b ∈ A i, H b ≠ none
  fl : ∀ b, F b → H b ≠ none

section
variable {w : World} {g : Option (Addr × Addr)} {G0 : Addr → Prop} {H0 : Hp} {F F1 : Addr → Prop} {A : Nat → List Addr} {σ τ : L2.St} {H H1 H2 : Hp} {ρ π : LSS} {s s1 s2 : S1}
theorem SR.nown (E : SR w g G0 H0 F A σ H ρ s) {i : Nat} {b : Addr} (h : b ∈ A i) : ¬ Own2 g b := fun z => by
  obtain ⟨s0, r⟩ := E.src0
  exact r.there z (E.new i b h).1
theorem Paired.imp {α β : Type} {R R' : α → β → Prop} (f : ∀ a b, R a b → R' a b) : ∀ {l : List α} {m : List β}, Paired R l m → Paired R' l m
  | _, _, .nil => .nil
  | _, _, .cons r t => .cons (f _ _ r) (Paired.imp f t)
theorem Paired.impM {α β : Type} {R R' : α → β → Prop} : ∀ {l : List α} {m : List β}, (∀ a ∈ l, ∀ b, R a b → R' a b) → Paired R l m → Paired R' l m
  | _, _, f, .nil => .nil
  | _, _, f, .cons r t => .cons (f _ List.mem_cons_self _ r) (Paired.impM (fun a h b => f a (List.mem_cons_of_mem _ h) b) t)
/-- the same slots over another heap that holds what they hang on -/
theorem SlotR.go {F' : Addr → Prop} {as : List Addr} {o : Option (Option V)} {x : SS} (h : SlotR w g F H as o x) (ka : ∀ b ∈ as, ∀ u, H b = some u → H1 b = some u) (kd : ∀ v d, Dat w F H v d → Dat w F' H1 v d) (kds : ∀ v d, Dats w F H v d → Dats w F' H1 v d) : SlotR w g F' H1 as o x := by
  cases x with
  | un => exact trivial
  | frz d =>
    obtain ⟨v, h1, h2⟩ := h
    exact ⟨v, h1, kd _ _ h2⟩
  | own xs =>
    obtain ⟨a, vs, h1, h2, h3, h4⟩ := h
    exact ⟨a, vs, h1, h2, ka _ (by rw [h1]; exact List.mem_singleton.mpr rfl) _ h3, kds _ _ h4⟩
  | own2 xss =>
    obtain ⟨a, ps, h1, hn, h2, h3, h4⟩ := h
    refine ⟨a, ps, h1, hn, h2, ka _ (by rw [h1]; exact List.mem_cons_self) _ h3, Paired.impM (fun p hp xs ⟨vs, q1, q2⟩ => ⟨vs, ka _ (by rw [h1]; exact List.mem_cons_of_mem _ hp) _ q1, kds _ _ q2⟩) h4⟩
  | src => exact h
theorem SR.step (E : SR w g G0 H0 F A σ H ρ s) (k : Keep g H H1) (r : SrcR g H1 s1) : SR w g G0 H0 F A σ H1 ρ s1 :=
  ⟨E.src0, E.sub, E.gok, E.keep.trans k, r, E.len, fun i x e => (E.slot i x e).go (fun b hb u q => k b u q (E.nown hb)) (fun v d q => q.keep k E.src E.gok) (fun v d q => q.keep k E.src E.gok), E.new, E.dis, fun i b hb e => E.alive i b hb (k.alive r e), fun b hb e => E.fl b hb (k.alive r e)⟩
/-- more stays -/
theorem SR.more (E : SR w g G0 H0 F A σ H ρ s) (h1 : ∀ b, F b → F1 b) (h2 : ∀ b, F1 b → Up G0 H0 b ∧ ¬ Own2 g b ∧ H b ≠ none ∧ ∀ i, b ∉ A i) : SR w g G0 H0 F1 A σ H ρ s :=
  ⟨E.src0, fun b z => (h2 b z).1, fun b z => (h2 b z).2.1, E.keep, E.src, E.len, fun i x e => (E.slot i x e).go (fun _ _ _ q => q) (fun v d q => q.mono h1) (fun v d q => q.mono h1), fun i b hb => ⟨(E.new i b hb).1, fun z => (h2 b z).2.2.2 i hb⟩, E.dis, E.alive, fun b z => (h2 b z).2.2.1⟩
theorem SR.up {b : Addr} (E : SR w g G0 H0 F A σ H ρ s) (h : Up F H b) : Up G0 H0 b := h.elim (E.sub b) fun e => .inr (E.keep.alive E.src e)
theorem SR.grow (E : SR w g G0 H0 F A σ H ρ s) (k : Keep g H H1) (r : SrcR g H1 s1) (P : Addr → Prop) : SR w g G0 H0 (fun b => F b ∨ (H b = none ∧ H1 b ≠ none ∧ P b)) A σ H1 ρ s1 :=
  (E.step k r).more (fun b z => .inl z) fun b z => z.elim (fun z => ⟨E.sub b z, E.gok b z, fun e => E.fl b z (k.alive r e), fun i hb => (E.new i b hb).2 z⟩) fun z => ⟨E.up (.inr z.1), fun o => E.src.there o z.1, z.2.1, fun i hb => E.alive i b hb z.1⟩
theorem SR.kg (E : SR w g G0 H0 F A σ H ρ s) (k : Keep g H H1) : KeepG F H H1 := KeepG.of E.gok E.src k
theorem SR.esF (E : SR w g G0 H0 F A (σ ++ τ) H (ρ ++ π) s) (hl : ρ.length = σ.length) : ES w g F σ H (ρ.map SS.f) s where
  gok := E.gok
  src := E.src
  env := fun i x e => by
    rw [List.getElem?_map] at e
    obtain ⟨y, e1, e2⟩ := map_some e
    have hi : i < ρ.length := (List.getElem?_eq_some_iff.mp e1).1
    have q := E.slot i y (by rw [List.getElem?_append_left hi]; exact e1)
    rw [List.getElem?_append_left (by omega)] at q
    cases y <;> simp [SS.f] at e2
    subst e2
    exact q
  esrc := fun i e => by
    rw [List.getElem?_map] at e
    obtain ⟨y, e1, e2⟩ := map_some e
    have hi : i < ρ.length := (List.getElem?_eq_some_iff.mp e1).1
    have q := E.slot i y (by rw [List.getElem?_append_left hi]; exact e1)
    rw [List.getElem?_append_left (by omega)] at q
    cases y <;> simp [SS.f] at e2
    exact q
  len := by rw [List.length_map]; exact hl
/-- what may be read: what stays, and the slots' own -/
def FA (F : Addr → Prop) (A : Nat → List Addr) : Addr → Prop := fun b => F b ∨ ∃ i, b ∈ A i
theorem SlotR.read {as : List Addr} {o : Option (Option V)} {x : SS} {d : D} {G : Addr → Prop} (h : SlotR w g F H as o x) (hd : SS.r x = .d d) (hF : ∀ b, F b → G b) (hA : ∀ b ∈ as, G b) : ∃ v, o = some (some v) ∧ Dat w G H v d := by
  cases x with
  | un => cases hd
  | frz d =>
    cases hd
    obtain ⟨v, h1, h2⟩ := h
    exact ⟨v, h1, h2.mono hF⟩
  | own xs =>
    cases hd
    obtain ⟨a, vs, h1, h2, h3, h4⟩ := h
    exact ⟨_, h2, .list (hA a (by rw [h1]; exact List.mem_singleton.mpr rfl)) h3 (h4.mono hF)⟩
  | own2 xss =>
    cases hd
    obtain ⟨a, ps, h1, hn, h2, h3, h4⟩ := h
    refine ⟨_, h2, .list (hA a (by rw [h1]; exact List.mem_cons_self)) h3 ?_⟩
    have hps : ∀ p ∈ ps, G p := fun p hp => hA p (by rw [h1]; exact List.mem_cons_of_mem _ hp)
    clear h1 hn h2 h3
    induction h4 with
    | nil => exact .nil
    | cons r _ ih =>
      obtain ⟨vs, q1, q2⟩ := r
      exact .cons (.list (hps _ List.mem_cons_self) q1 (q2.mono hF)) (ih fun p hp => hps p (List.mem_cons_of_mem _ hp))
  | src => cases hd
theorem SR.esR (E : SR w g G0 H0 F A (σ ++ τ) H (ρ ++ π) s) (hl : ρ.length = σ.length) : ES w g (FA F A) σ H (ρ.map SS.r) s where
  gok := fun b z => z.elim (E.gok b) fun ⟨i, hb⟩ => E.nown hb
  src := E.src
  env := fun i x e => by
    rw [List.getElem?_map] at e
    obtain ⟨y, e1, e2⟩ := map_some e
    have hi : i < ρ.length := (List.getElem?_eq_some_iff.mp e1).1
    have q := E.slot i y (by rw [List.getElem?_append_left hi]; exact e1)
    rw [List.getElem?_append_left (by omega)] at q
    exact q.read e2 (fun b z => .inl z) fun b z => .inr ⟨i, z⟩
  esrc := fun i e => by
    rw [List.getElem?_map] at e
    obtain ⟨y, e1, e2⟩ := map_some e
    have hi : i < ρ.length := (List.getElem?_eq_some_iff.mp e1).1
    have q := E.slot i y (by rw [List.getElem?_append_left hi]; exact e1)
    rw [List.getElem?_append_left (by omega)] at q
    cases y <;> simp [SS.r] at e2
    exact q
  len := by rw [List.length_map]; exact hl
/-- one more slot -/
theorem SR.push (E : SR w g G0 H0 F A σ H ρ s) {v : V} {x : SS} {as : List Addr} (h : SlotR w g F H as (some (some v)) x) (ha : ∀ b ∈ as, H0 b = none ∧ ¬ F b ∧ H b ≠ none ∧ ∀ i, b ∉ A i) : ∃ A', SR w g G0 H0 F A' (σ ++ [some v]) H (ρ ++ [x]) s := by
  refine ⟨fun i => if i < σ.length then A i else if i = σ.length then as else [], E.src0, E.sub, E.gok, E.keep, E.src, by simp [E.len], fun i y e => ?_, fun i b hb => ?_, fun i j b h1 h2 => ?_, fun i b hb => ?_, E.fl⟩
  · by_cases hi : i < σ.length
    · rw [List.getElem?_append_left (by rw [E.len]; exact hi)] at e
      simp only [hi, if_true]
      rw [List.getElem?_append_left hi]
      exact E.slot i y e
    · by_cases hj : i = σ.length
      · subst hj
        rw [← E.len, List.getElem?_append_right (Nat.le_refl _), Nat.sub_self] at e
        simp only [Nat.lt_irrefl, if_false, if_true]
        rw [List.getElem?_append_right (Nat.le_refl _), Nat.sub_self]
        cases e
        exact h
      · rw [List.getElem?_eq_none (by rw [List.length_append, E.len, List.length_singleton]; omega)] at e
        cases e
  · by_cases hi : i < σ.length
    · simp only [hi, if_true] at hb
      exact E.new i b hb
    · simp only [hi, if_false] at hb
      split at hb
      · exact ⟨(ha b hb).1, (ha b hb).2.1⟩
      · cases hb
  · by_cases hi : i < σ.length
    · simp only [hi, if_true] at h1
      by_cases hj : j < σ.length
      · simp only [hj, if_true] at h2
        exact E.dis i j b h1 h2
      · simp only [hj, if_false] at h2
        split at h2
        · exact absurd h1 ((ha b h2).2.2.2 i)
        · cases h2
    · simp only [hi, if_false] at h1
      split at h1
      · by_cases hj : j < σ.length
        · simp only [hj, if_true] at h2
          exact absurd h2 ((ha b h1).2.2.2 j)
        · simp only [hj, if_false] at h2
          split at h2
          · omega
          · cases h2
      · cases h1
  · by_cases hi : i < σ.length
    · simp only [hi, if_true] at hb
      exact E.alive i b hb
    · simp only [hi, if_false] at hb
      split at hb
      · exact (ha b hb).2.2.1
      · cases hb
/-- the slot behind the first n goes to i -/
theorem SR.move {v : V} {x : SS} {i : Nat} (E : SR w g G0 H0 F A (σ ++ some v :: τ) H (ρ ++ x :: π) s) (hl : ρ.length = σ.length) (hi : i < ρ.length) : ∃ A', SR w g G0 H0 F A' (σ.set i (some v) ++ τ) H (ρ.set i x ++ π) s := by
  have fj : ∀ j, ∃ k, (fun j => if j = i then σ.length else if j < σ.length then j else j + 1) j = k := fun j => ⟨_, rfl⟩
  have get : ∀ {α : Type} (l : List α) (r : List α) (y : α) (j : Nat), l.length = σ.length → (l.set i y ++ r)[j]? = (l ++ y :: r)[if j = i then σ.length else if j < σ.length then j else j + 1]? := by
    intro α l r y j hl'
    by_cases h1 : j = i
    · subst h1
      rw [if_pos rfl, List.getElem?_append_left (by rw [List.length_set]; omega), List.getElem?_set_self (by omega), List.getElem?_append_right (by omega)]
      simp [hl']
    · rw [if_neg h1]
      by_cases h2 : j < σ.length
      · rw [if_pos h2, List.getElem?_append_left (by rw [List.length_set]; omega), List.getElem?_set_ne (Ne.symm h1), List.getElem?_append_left (by omega)]
      · rw [if_neg h2, List.getElem?_append_right (by rw [List.length_set]; omega), List.length_set, List.getElem?_append_right (by omega), show j + 1 - l.length = (j - l.length) + 1 by omega, List.getElem?_cons_succ]
  have inj : ∀ j k, (if j = i then σ.length else if j < σ.length then j else j + 1) = (if k = i then σ.length else if k < σ.length then k else k + 1) → j = k := by
    intro j k h
    split at h <;> split at h <;> (try split at h) <;> (try split at h) <;> omega
  refine ⟨fun j => A (if j = i then σ.length else if j < σ.length then j else j + 1), E.src0, E.sub, E.gok, E.keep, E.src, ?_, fun j y e => ?_, fun j b hb => E.new _ b hb, fun j k b h1 h2 => inj j k (E.dis _ _ b h1 h2), fun j b hb => E.alive _ b hb, E.fl⟩
  · have := E.len
    simp only [List.length_append, List.length_set, List.length_cons] at this ⊢
    omega
  · rw [get ρ π x j hl] at e
    rw [get σ τ (some v) j rfl]
    exact E.slot _ y e
/-- a slot holds what stays -/
theorem SR.put {v : V} {d : D} {i : Nat} (E : SR w g G0 H0 F A σ H ρ s) (hi : i < ρ.length) (h : Dat w F H v d) : ∃ A', SR w g G0 H0 F A' (σ.set i (some v)) H (ρ.set i (.frz d)) s := by
  obtain ⟨A1, E1⟩ := E.push (x := .frz d) (as := []) ⟨v, rfl, h⟩ fun b z => nomatch z
  obtain ⟨A2, E2⟩ := E1.move E.len hi
  exact ⟨A2, by simpa using E2⟩
theorem SR.drop {i : Nat} {o : Option V} (E : SR w g G0 H0 F A σ H ρ s) : SR w g G0 H0 F A (σ.set i o) H (ρ.set i .un) s :=
  ⟨E.src0, E.sub, E.gok, E.keep, E.src, by rw [List.length_set, List.length_set, E.len], fun j y e => by
    by_cases hj : i = j
    · subst hj
      by_cases hl : i < ρ.length
      · rw [List.getElem?_set_self hl] at e
        cases e
        exact trivial
      · rw [List.getElem?_eq_none (by rw [List.length_set]; omega)] at e
        cases e
    · rw [List.getElem?_set_ne hj] at e
      rw [List.getElem?_set_ne hj]
      exact E.slot j y e, E.new, E.dis, E.alive, E.fl⟩
end
end Os
end
section
set_option linter.all false
set_option maxRecDepth 100000
set_option maxHeartbeats 4000000
/-! OsP: an expression of a statement, by its mode; stores. -/
namespace Os
open PySem PySem.Spec PyProof.Rows L2

/-- an expression by its mode, one more slot behind the slots -/
def tM (w : World) (Φ : List FE) (md : Mode) (m : ME) : TE := fun σ H Q => ∃ g G0 H0 F A τ ρ π s x s1, SR w g G0 H0 F A (σ ++ τ) H (ρ ++ π) s ∧ ρ.length = σ.length ∧ evM Φ md m ρ s = some (x, s1) ∧
  ∀ v H1 F1 A1, SR w g G0 H0 F1 A1 (σ ++ (τ ++ [some v])) H1 (ρ ++ (π ++ [x])) s1 → KeepG F H H1 → (∀ b, F b → F1 b) → Q v H1

section
variable {w : World} {g : Option (Addr × Addr)} {G G0 : Addr → Prop} {H0 : Hp} {F F1 : Addr → Prop} {A : Nat → List Addr} {σ τ : L2.St} {H H1 H2 : Hp} {ρ π : LSS} {s s1 s2 : S1}
theorem dat_liveUp {v : V} {d : D} (r : Dat w (Up F H) H1 v d) : Dat w (fun b => F b ∨ (H b = none ∧ H1 b ≠ none ∧ True)) H1 v d := r.live.mono fun b z => z.1.elim .inl fun e => .inr ⟨e, z.2, trivial⟩
theorem tM_of {Φ : List FE} {md : Mode} {m : ME} {Q : VK} (hq : md ≠ .q) (h : tM w Φ md m σ H Q) : tE w Φ m σ H Q := by
  obtain ⟨g, G0, H0, F, A, τ, ρ, π, s, x, s1, E, hl, h, k⟩ := h
  unfold evM at h
  obtain ⟨⟨d, s2⟩, h1, h2'⟩ := bind_some h
  obtain ⟨y, h2, h3'⟩ := map_some h2'
  cases h3'
  clear h h2'
  have frzK : ∀ {v : V} {H1 : Hp}, x = .frz d → Keep g H H1 → SrcR g H1 s1 → Dat w (fun b => F b ∨ (H b = none ∧ H1 b ≠ none ∧ True)) H1 v d → Q v H1 := fun {v H1} hy k1 r1 dd => by
    subst hy
    obtain ⟨A2, E2⟩ := (E.grow k1 r1 fun _ => True).push (v := v) (x := .frz d) (as := []) ⟨v, rfl, dd⟩ fun b z => nomatch z
    rw [List.append_assoc, List.append_assoc] at E2
    exact k v H1 _ _ E2 (E.kg k1) fun b z => .inl z
  have ownK : ∀ {v : V} {H1 : Hp} {G : Addr → Prop}, (∀ xs, d = .list xs → x = .own xs) → Keep g H H1 → SrcR g H1 s1 → (∃ (p : Addr) (vs : List V) (ds : List D), v = .ref p ∧ d = .list ds ∧ H p = none ∧ H1 p = some (.lst vs) ∧ Dats w (fun b => F b ∨ (H b = none ∧ H1 b ≠ none ∧ b ≠ p)) H1 vs ds) → Q v H1 := fun {v H1 G} hy k1 r1 hn => by
    obtain ⟨p, vs, ds, rfl, rfl, e3, e4, e5⟩ := hn
    have hy' := hy _ rfl
    subst hy'
    obtain ⟨A2, E2⟩ := (E.grow k1 r1 fun b => b ≠ p).push (v := .ref p) (x := .own ds) (as := [p]) ⟨p, vs, rfl, rfl, e4, e5⟩ fun b z => by
      rw [List.mem_singleton.mp z]
      exact ⟨E.keep.alive E.src e3, fun z => z.elim (fun z => E.fl p z e3) fun z => z.2.2 rfl, by rw [e4]; exact nofun, fun i hi => E.alive i p hi e3⟩
    rw [List.append_assoc, List.append_assoc] at E2
    exact k _ H1 _ _ E2 (E.kg k1) fun b z => .inl z
  cases md with
  | f =>
    cases h2
    exact ⟨g, F, _, s, d, _, E.esF hl, h1, fun v H1 p _ => frzK rfl p.keep p.src (dat_liveUp p.dat)⟩
  | i =>
    simp only [slotOf] at h2
    split at h2
    · rename_i hi
      cases h2
      exact ⟨g, _, _, s, d, _, E.esR hl, h1, fun v H1 p _ => frzK rfl p.keep p.src (Dat.imm (fun _ _ _ e => e) p.dat hi)⟩
    · cases h2
  | o =>
    simp only [slotOf] at h2
    split at h2
    · rename_i hn
      split at h2
      · cases h2
        refine ⟨g, F, _, s, _, _, E.esF hl, h1, fun v H1 p n => ownK (G := F) (fun xs e => by cases e; rfl) p.keep p.src ?_⟩
        obtain ⟨q, vs, ds, e1, e2, e3, e4, e5⟩ := n hn
        exact ⟨q, vs, ds, e1, e2, e3, e4, e5.live.mono fun b z => z.1.1.elim .inl fun e => .inr ⟨e, z.2, z.1.2⟩⟩
      · cases h2
    · cases h2
  | p =>
    simp only [slotOf] at h2
    split at h2
    · rename_i hn
      split at h2
      · split at h2
        · rename_i hi
          cases h2
          refine ⟨g, _, _, s, _, _, E.esR hl, h1, fun v H1 p n => ownK (G := F) (fun xs e => by cases e; rfl) p.keep p.src ?_⟩
          obtain ⟨q, vs, ds, e1, e2, e3, e4, e5⟩ := n hn
          cases e2
          exact ⟨q, vs, _, e1, rfl, e3, e4, Dats.imm (fun _ _ _ e => e) e5 hi⟩
        · cases h2
      · cases h2
    · cases h2
  | q => exact absurd rfl hq

/-! ### a new list of new lists -/
def NewLs (w : World) (G : Addr → Prop) (H H' : Hp) (vs : List V) (ds : List D) : Prop := ∃ (ps : List Addr) (xss : List (List D)), vs = ps.map V.ref ∧ ds = xss.map .list ∧ ps.Nodup ∧ (∀ p ∈ ps, H p = none ∧ H' p ≠ none) ∧ Paired (fun p xs => ∃ us, H' p = some (.lst us) ∧ Dats w (fun b => Up G H b ∧ b ∉ ps) H' us xs) ps xss
def tNs (w : World) (Φ : List FE) (ms : MEs) : TA := fun σ H Q => ∃ g G ρ s ds s', ES w g G σ H ρ s ∧ (∀ b, G b → H b ≠ none) ∧ evs Φ ms ρ s = some (ds, s') ∧ allNew Φ ms = true ∧ ∀ vs H', Keep g H H' → SrcR g H' s' → NewLs w G H H' vs ds → Q vs H'
theorem ES.hold {ρ : LS} (E : ES w g G σ H ρ s) (k : Keep g H H1) (r : SrcR g H1 s1) : ES w g G σ H1 ρ s1 where
  gok := E.gok
  src := r
  env := fun i x e => by
    obtain ⟨v, h1, h2⟩ := E.env i x e
    exact ⟨v, h1, h2.keep k E.src E.gok⟩
  esrc := E.esrc
  len := E.len
theorem n_nil {X : Cx} {Φ : List FE} : PA X [] (tNs X.w Φ .nil) := pa_weak pa_nil fun σ H Q ⟨g, G, ρ, s, ds, s', E, gl, ee, _, q⟩ => by
  cases ee
  exact q [] H Keep.refl E.src ⟨[], [], rfl, rfl, .nil, fun p z => (nomatch z), .nil⟩
theorem n_cons {X : Cx} {Φ : List FE} {e : Expr} {es : List Expr} {m : ME} {ms : MEs} (h : Snd X Φ e m) (hn : ∀ (es : List Expr) (env : Env), starEach (e :: es) env = (false, eval e env) :: starEach es env) (hr : PA X es (tNs X.w Φ ms)) : PA X (e :: es) (tNs X.w Φ (.cons m ms)) :=
  pa_weak (pa_cons h.pe hr (hn _ _)) fun σ H Q ⟨g, G, ρ, s, ds, s', E, gl, ee, an, q⟩ => by
    rw [evs] at ee
    obtain ⟨⟨x, s1⟩, e1, e2⟩ := bind_some ee
    obtain ⟨⟨xs, s2⟩, e3, e4⟩ := map_some e2
    cases e4
    rw [allNew, Bool.and_eq_true] at an
    refine ⟨g, G, ρ, s, x, s1, E, e1, fun v H1 p n => ⟨g, G, ρ, s1, xs, _, E.hold p.keep p.src, fun b z e => gl b z (p.keep.alive p.src e), e3, an.2, fun vs H2 k2 r2 hN => ?_⟩⟩
    obtain ⟨a, us, ys, rfl, rfl, a1, a2, a3⟩ := n an.1
    obtain ⟨ps, xss, rfl, rfl, nd, al, pr⟩ := hN
    have na : ¬ Own2 g a := fun z => E.src.there z a1
    have hap : a ∉ ps := fun z => by
      have := (al a z).1
      rw [a2] at this
      cases this
    refine q _ _ (p.keep.trans k2) r2 ⟨a :: ps, ys :: xss, rfl, rfl, List.nodup_cons.mpr ⟨hap, nd⟩, fun b hb => ?_, .cons ⟨us, k2 _ _ a2 na, ?_⟩ (Paired.imp (fun b zs ⟨ws, h1, h2⟩ => ⟨ws, h1, h2.mono fun c z => ?_⟩) pr)⟩
    · rcases List.mem_cons.mp hb with e | e
      · subst e
        exact ⟨a1, by rw [k2 _ _ a2 na]; exact fun z => nomatch z⟩
      · exact ⟨p.keep.alive p.src (al b e).1, (al b e).2⟩
    · have f : Dats X.w (fun b => (Up G H b ∧ b ≠ a) ∧ H1 b ≠ none) H2 us ys := a3.live.keep k2 p.src fun b z => Up.gok E.src E.gok b z.1.1
      exact f.mono fun b z => ⟨z.1.1, fun y => (List.mem_cons.mp y).elim z.1.2 fun y => z.2 (al b y).1⟩
    · refine ⟨z.1.elim .inl fun e => .inr (p.keep.alive p.src e), fun y => (List.mem_cons.mp y).elim (fun y => ?_) z.2⟩
      subst y
      exact z.1.elim (fun y => gl _ y a1) fun y => by rw [a2] at y; cases y
theorem listsOf_map {xss : List (List D)} : listsOf (xss.map .list) = some xss := by
  induction xss with
  | nil => rfl
  | cons x r ih => rw [List.map_cons, listsOf, ih]; rfl
theorem m_q {X : Cx} {Φ : List FE} {es : List Expr} {ms : MEs} {pos : Pos} (h : PA X es (tNs X.w Φ ms)) : PE X (.List es pos) (tM X.w Φ .q (.lst ms)) :=
  pe_weak (pe_lst h) fun σ H Q ⟨g, G0, H0, F, A, τ, ρ, π, s, x, s1, E, hl, hv, k⟩ => by
    unfold evM at hv
    obtain ⟨⟨d, s2⟩, h1, h2'⟩ := bind_some hv
    obtain ⟨y, h2, h3'⟩ := map_some h2'
    cases h3'
    rw [ev] at h1
    obtain ⟨⟨ds, s3⟩, h3, h4⟩ := bind_some h1
    dsimp only at h4
    split at h4
    case isFalse => cases h4
    case isTrue hz =>
      cases h4
      rw [slotOf] at h2
      split at h2
      case isFalse => cases h2
      case isTrue an =>
        refine ⟨g, F, _, s, ds, _, E.esF hl, E.fl, h3, an, fun vs H1 k1 r1 hN => ?_⟩
        obtain ⟨ps, xss, rfl, rfl, nd, al, pr⟩ := hN
        rw [listsOf_map] at h2
        cases h2
        have hlen : ps.length = xss.length := Paired.length pr
        refine ⟨by rw [List.length_map, hlen]; rw [List.length_map] at hz; exact hz, fun a ha => ?_⟩
        have sm : Same H1 (upd H1 a (.lst (ps.map V.ref))) := same_new ha
        have k2 : Keep g H (upd H1 a (.lst (ps.map V.ref))) := k1.trans (Keep.of sm)
        have hap : a ∉ ps := fun z => (al a z).2 ha
        have aH : H a = none := k1.alive r1 ha
        have hP : Paired (fun p xs => ∃ vs, upd H1 a (.lst (ps.map V.ref)) p = some (.lst vs) ∧ Dats X.w (fun b => F b ∨ (H b = none ∧ upd H1 a (.lst (ps.map V.ref)) b ≠ none ∧ b ∉ a :: ps)) (upd H1 a (.lst (ps.map V.ref))) vs xs) ps xss :=
          Paired.imp (fun p xs ⟨us, q1, q2⟩ => ⟨us, sm _ _ q1, (q2.live.same sm).mono fun b z => z.1.1.elim .inl fun e => .inr ⟨e, by
            rw [upd_ne (fun y : b = a => z.2 (by rw [y]; exact ha))]
            exact z.2, fun y => (List.mem_cons.mp y).elim (fun y => z.2 (by rw [y]; exact ha)) z.1.2⟩⟩) pr
        obtain ⟨A2, E2⟩ := (E.grow k2 (r1.same sm) fun b => b ∉ a :: ps).push (v := .ref a) (x := .own2 xss) (as := a :: ps) ⟨a, ps, rfl, List.nodup_cons.mpr ⟨hap, nd⟩, rfl, upd_same, hP⟩ fun b z => by
          have hb : H b = none := by
            rcases List.mem_cons.mp z with e | e
            · rw [e]
              exact aH
            · exact (al b e).1
          refine ⟨E.keep.alive E.src hb, fun y => y.elim (fun y => E.fl b y hb) fun y => y.2.2 z, ?_, fun i hi => E.alive i b hi hb⟩
          rcases List.mem_cons.mp z with e | e
          · rw [e, upd_same]
            exact nofun
          · rw [upd_ne (fun y : b = a => hap (by rw [← y]; exact e))]
            exact (al b e).2
        rw [List.append_assoc, List.append_assoc] at E2
        exact k _ _ _ _ E2 (E.kg k2) fun b z => .inl z
end
end Os
end
section
set_option linter.all false
set_option maxRecDepth 100000
set_option maxHeartbeats 4000000
/-! OsQ: stores by the slots' state; a statement's reading. -/
namespace Os
open PySem PySem.Spec PyProof.Rows L2

section
variable {w : World} {g : Option (Addr × Addr)} {G G0 : Addr → Prop} {H0 : Hp} {F F1 : Addr → Prop} {A : Nat → List Addr} {σ τ : L2.St} {H H1 H2 : Hp} {ρ π : LSS} {s s1 s2 : S1}
theorem SR.pop (E : SR w g G0 H0 F A (σ ++ τ) H (ρ ++ π) s) (hl : ρ.length = σ.length) : SR w g G0 H0 F A σ H ρ s :=
  ⟨E.src0, E.sub, E.gok, E.keep, E.src, hl, fun i x e => by
    have hi : i < ρ.length := (List.getElem?_eq_some_iff.mp e).1
    have q := E.slot i x (by rw [List.getElem?_append_left hi]; exact e)
    rw [List.getElem?_append_left (by omega)] at q
    exact q, E.new, E.dis, E.alive, E.fl⟩
theorem SR.last {v : V} {x : SS} (E : SR w g G0 H0 F A (σ ++ [some v]) H (ρ ++ [x]) s) (hl : ρ.length = σ.length) : SlotR w g F H (A σ.length) (some (some v)) x := by
  have q := E.slot σ.length x (by rw [List.getElem?_append_right (by omega)]; simp [hl])
  rw [List.getElem?_append_right (Nat.le_refl _)] at q
  simpa using q
theorem bindS_len : ∀ (t : MT) {x : D} {ρ ρ1 : LSS}, bindS t x ρ = some ρ1 → ρ1.length = ρ.length
  | .nm i, x, ρ, ρ1, h => by
    unfold bindS at h
    split at h
    · cases h
      rw [List.length_set]
    · cases h
  | .two a b, x, ρ, ρ1, h => by
    unfold bindS at h
    split at h
    · obtain ⟨ρ2, h1, h2⟩ := bind_some h
      rw [bindS_len b h2, bindS_len a h1]
    · cases h
  | .three a b c, x, ρ, ρ1, h => by
    unfold bindS at h
    split at h
    · obtain ⟨ρ3, h, h3⟩ := bind_some h
      obtain ⟨ρ2, h1, h2⟩ := bind_some h
      rw [bindS_len c h3, bindS_len b h2, bindS_len a h1]
    · cases h
  | .four a b c d, x, ρ, ρ1, h => by
    unfold bindS at h
    split at h
    · obtain ⟨ρ4, h, h4⟩ := bind_some h
      obtain ⟨ρ3, h, h3⟩ := bind_some h
      obtain ⟨ρ2, h1, h2⟩ := bind_some h
      rw [bindS_len d h4, bindS_len c h3, bindS_len b h2, bindS_len a h1]
    · cases h
theorem gmS_run {K : PySem.W.Frag} : ∀ (t : MT) {A : Nat → List Addr} {v : V} {x : D} {ρ ρ1 : LSS} {σ : L2.St} {Q : L2.St → Hp → Prop}, bindS t x ρ = some ρ1 → Dat w F H v x → SR w g G0 H0 F A σ H ρ s →
    (∀ σ2 A2, SR w g G0 H0 F A2 σ2 H ρ1 s → Q σ2 H) → gM K t v σ H Q
  | .nm i, A, v, x, ρ, ρ1, σ, Q, hb, d, E, q => by
    unfold bindS at hb
    split at hb
    · rename_i hi
      cases hb
      obtain ⟨A2, E2⟩ := E.put hi d
      exact q _ A2 E2
    · cases hb
  | .two a b, A, v, x, ρ, ρ1, σ, Q, hb, d, E, q => by
    unfold bindS at hb
    split at hb
    · obtain ⟨ρ2, h1, h2⟩ := bind_some hb
      obtain ⟨p, o, vs, rfl, e, nd, r⟩ := d.tupE
      obtain ⟨x1, x2, rfl, d1, d2⟩ := r.two
      exact ⟨p, _, rfl, SqT.fz e, rfl, _, _, rfl, gmS_run a h1 d1 E fun σ1 A1 E1 => ⟨_, _, rfl, gmS_run b h2 d2 E1 fun σ2 A2 E2 => ⟨rfl, q σ2 A2 E2⟩⟩⟩
    · cases hb
  | .three a b c, A, v, x, ρ, ρ1, σ, Q, hb, d, E, q => by
    unfold bindS at hb
    split at hb
    · obtain ⟨ρ3, hb, h3⟩ := bind_some hb
      obtain ⟨ρ2, h1, h2⟩ := bind_some hb
      obtain ⟨p, o, vs, rfl, e, nd, r⟩ := d.tupE
      obtain ⟨x1, x2, x3, rfl, d1, d2, d3⟩ := r.three
      exact ⟨p, _, rfl, SqT.fz e, rfl, _, _, rfl, gmS_run a h1 d1 E fun σ1 A1 E1 => ⟨_, _, rfl, gmS_run b h2 d2 E1 fun σ2 A2 E2 => ⟨_, _, rfl, gmS_run c h3 d3 E2 fun σ3 A3 E3 => ⟨rfl, q σ3 A3 E3⟩⟩⟩⟩
    · cases hb
  | .four a b c f, A, v, x, ρ, ρ1, σ, Q, hb, d, E, q => by
    unfold bindS at hb
    split at hb
    · obtain ⟨ρ4, hb, h4⟩ := bind_some hb
      obtain ⟨ρ3, hb, h3⟩ := bind_some hb
      obtain ⟨ρ2, h1, h2⟩ := bind_some hb
      obtain ⟨p, o, vs, rfl, e, nd, r⟩ := d.tupE
      obtain ⟨x1, x2, x3, x4, rfl, d1, d2, d3, d4⟩ := r.four
      exact ⟨p, _, rfl, SqT.fz e, rfl, _, _, rfl, gmS_run a h1 d1 E fun σ1 A1 E1 => ⟨_, _, rfl, gmS_run b h2 d2 E1 fun σ2 A2 E2 => ⟨_, _, rfl, gmS_run c h3 d3 E2 fun σ3 A3 E3 => ⟨_, _, rfl, gmS_run f h4 d4 E3 fun σ4 A4 E4 => ⟨rfl, q σ4 A4 E4⟩⟩⟩⟩⟩
    · cases hb
theorem gmS_item {K : PySem.W.Frag} {pr : Bool} (t : MT) (ht : pr = true → ∀ i, t ≠ .nm i) {v : V} {x : D} {ρ1 : LSS} {Q : L2.St → Hp → Prop} (hb : bindS t x ρ = some ρ1) (d : ItemR pr w F H v x) (E : SR w g G0 H0 F A σ H ρ s)
    (q : ∀ σ2 A2, SR w g G0 H0 F A2 σ2 H ρ1 s → Q σ2 H) : gM K t v σ H Q := by
  rcases d with d | ⟨hp, T, x1, x2, dx, dy, rfl, e, d1, d2, rfl⟩
  · exact gmS_run t hb d E q
  · cases t with
    | nm i => exact absurd rfl (ht hp i)
    | two a b =>
      rw [bindS] at hb
      obtain ⟨ρ2, h1, h2⟩ := bind_some hb
      exact ⟨T, _, rfl, SqT.of e, rfl, _, _, rfl, gmS_run a h1 d1 E fun σ1 A1 E1 => ⟨_, _, rfl, gmS_run b h2 d2 E1 fun σ2 A2 E2 => ⟨rfl, q σ2 A2 E2⟩⟩⟩
    | three a b c => simp [bindS] at hb
    | four a b c f => simp [bindS] at hb
theorem upd_keep {p b : Addr} {u o : HO} (n : b ≠ p) (e : H b = some o) : upd H p u b = some o := by
  rw [upd_ne n]
  exact e
theorem kg_wr {p : Addr} {u : HO} {vs0 : List V} (hp : H p = some (.lst vs0)) (hF : ¬ F p) : KeepG F H (upd H p u) := by
  refine ⟨fun b o z e => upd_keep (fun i => ?_) e, fun b o xs e => upd_keep (fun i => ?_) e⟩
  · subst i
    exact hF z
  · subst i
    rw [hp] at e
    cases e
/-- the own lists of the slots, and all that stays, elsewhere: a write to one list of one slot -/
theorem SlotR.wr {as : List Addr} {o : Option (Option V)} {x : SS} {p : Addr} {u : HO} {vs0 : List V} (h : SlotR w g F H as o x) (hp : H p = some (.lst vs0)) (hF : ¬ F p) (ha : p ∉ as) : SlotR w g F (upd H p u) as o x :=
  h.go (fun b hb y e => upd_keep (fun z => by subst z; exact ha hb) e) (fun v d q => q.go (fun b y z e => ⟨(kg_wr hp hF).1 b y z e, z⟩) (kg_wr hp hF).2) (fun v d q => q.go (fun b y z e => ⟨(kg_wr hp hF).1 b y z e, z⟩) (kg_wr hp hF).2)
theorem KeepG.trans' {F F1 : Addr → Prop} (a : KeepG F H H1) (b : KeepG F1 H1 H2) (h : ∀ x, F x → F1 x) : KeepG F H H2 :=
  ⟨fun x o z e => b.1 x o (h x z) (a.1 x o z e), fun x o xs e => b.2 x o xs (a.2 x o xs e)⟩
theorem KeepG.rfl' : KeepG F H H := ⟨fun _ _ _ e => e, fun _ _ _ e => e⟩
/-- x.append(y) -/
theorem SR.app {i : Nat} {xs : List D} {v : V} {d : D} (E : SR w g G0 H0 F A σ H ρ s) (hi : ρ[i]? = some (.own xs)) (hd : Dat w F H v d) : ∃ a vs, σ[i]? = some (some (.ref a)) ∧ H a = some (.lst vs) ∧ vs.length = xs.length ∧ KeepG F H (upd H a (.lst (vs ++ [v]))) ∧
    SR w g G0 H0 F A σ (upd H a (.lst (vs ++ [v]))) (ρ.set i (.own (xs ++ [d]))) s := by
  obtain ⟨a, vs, h1, h2, h3, h4⟩ := E.slot i _ hi
  have hai : a ∈ A i := by rw [h1]; exact List.mem_singleton.mpr rfl
  have hn := E.new i a hai
  have hl : i < ρ.length := (List.getElem?_eq_some_iff.mp hi).1
  refine ⟨a, vs, h2, h3, h4.length, kg_wr h3 hn.2, E.src0, E.sub, E.gok, fun b o e n => ?_, E.src.upd (E.nown hai), by rw [List.length_set]; exact E.len, fun j x e => ?_, E.new, E.dis, fun j b hb e => ?_, fun b hb e => ?_⟩
  · rw [upd_ne (ne_of_none e hn.1)]
    exact E.keep b o e n
  · by_cases hj : i = j
    · subst hj
      rw [List.getElem?_set_self hl] at e
      cases e
      refine ⟨a, vs ++ [v], h1, h2, upd_same, ?_⟩
      exact (h4.append (.cons hd .nil)).go (fun b y z e => ⟨(kg_wr h3 hn.2).1 b y z e, z⟩) (kg_wr h3 hn.2).2
    · rw [List.getElem?_set_ne hj] at e
      exact (E.slot j x e).wr h3 hn.2 fun z => hj (E.dis i j a hai z)
  · by_cases hb' : b = a
    · rw [hb', upd_same] at e
      cases e
    · rw [upd_ne hb'] at e
      exact E.alive j b hb e
  · by_cases hb' : b = a
    · rw [hb', upd_same] at e
      cases e
    · rw [upd_ne hb'] at e
      exact E.fl b hb e
end

/-! ### statements -/
def EndOk (w : World) (g : Option (Addr × Addr)) (G0 : Addr → Prop) (H0 : Hp) (F : Addr → Prop) (H : Hp) (nf : Bool) (D : Ends) : Res → Prop
  | .nx ρ s => ∀ σ H1 F1 A1, SR w g G0 H0 F1 A1 σ H1 ρ s → KeepG F H H1 → (∀ b, F b → F1 b) → D.nx σ H1
  | .bk ρ s => ∀ σ H1 F1 A1, SR w g G0 H0 F1 A1 σ H1 ρ s → KeepG F H H1 → (∀ b, F b → F1 b) → D.bk σ H1
  | .ct ρ s => ∀ σ H1 F1 A1, SR w g G0 H0 F1 A1 σ H1 ρ s → KeepG F H H1 → (∀ b, F b → F1 b) → D.ct σ H1
  | .rt d s => ∀ v H1, Ps w g G0 H0 H1 v d s → (nf = true → NewL w G0 H0 H1 v d) → D.rt v H1
def tS (w : World) (Φ : List FE) (m : MS) : TS := fun D σ H => ∃ g G0 H0 F A ρ s r, SR w g G0 H0 F A σ H ρ s ∧ run Φ m ρ s = some r ∧ EndOk w g G0 H0 F H (newM Φ m) D r
def tSs (w : World) (Φ : List FE) (m : MSs) : TS := fun D σ H => ∃ g G0 H0 F A ρ s r, SR w g G0 H0 F A σ H ρ s ∧ runs Φ m ρ s = some r ∧ EndOk w g G0 H0 F H (newMs Φ m) D r
section
variable {w : World} {g : Option (Addr × Addr)} {G0 : Addr → Prop} {H0 : Hp} {F F1 : Addr → Prop} {H H1 : Hp} {nf nf1 : Bool} {D D1 : Ends}
theorem EndOk.imp {r : Res} (h : EndOk w g G0 H0 F H nf D r) (k : KeepG F H H1) (f : ∀ b, F b → F1 b) (n : nf = true → nf1 = true) (h1 : ∀ σ H, D.nx σ H → D1.nx σ H) (h2 : ∀ v H, D.rt v H → D1.rt v H) (h3 : ∀ σ H, D.bk σ H → D1.bk σ H) (h4 : ∀ σ H, D.ct σ H → D1.ct σ H) : EndOk w g G0 H0 F1 H1 nf1 D1 r := by
  cases r with
  | nx ρ s => exact fun σ H2 F2 A2 E k2 f2 => h1 _ _ (h σ H2 F2 A2 E (k.trans' k2 f) fun b z => f2 b (f b z))
  | bk ρ s => exact fun σ H2 F2 A2 E k2 f2 => h3 _ _ (h σ H2 F2 A2 E (k.trans' k2 f) fun b z => f2 b (f b z))
  | ct ρ s => exact fun σ H2 F2 A2 E k2 f2 => h4 _ _ (h σ H2 F2 A2 E (k.trans' k2 f) fun b z => f2 b (f b z))
  | rt d s => exact fun v H2 p q => h2 _ _ (h v H2 p fun z => q (n z))
theorem EndOk.from {r : Res} (h : EndOk w g G0 H0 F H nf D r) (k : KeepG F H H1) (f : ∀ b, F b → F1 b) (n : nf = true → nf1 = true) : EndOk w g G0 H0 F1 H1 nf1 D r :=
  h.imp k f n (fun _ _ z => z) (fun _ _ z => z) (fun _ _ z => z) fun _ _ z => z
end
end Os
end
section
set_option linter.all false
set_option maxRecDepth 100000
set_option maxHeartbeats 4000000
/-! OsR: each statement by what it does. -/
namespace Os
open PySem PySem.Spec PyProof.Rows L2

structure XS (X : Cx) (Φ : List FE) (gk : List (Str × D)) (k : Nat) : Prop where
  c : XC X Φ gk k
  fn : ∀ x, X.fn x = true
  po : PassesOwn (model X.prog X.w) X.A X.env X.xe

theorem ps_weak {X : Cx} {st : Stmt} {t t' : TS} (h : PS X st t) (f : ∀ D σ H, t' D σ H → t D σ H) : PS X st t' := ⟨fun pins s σ H D I q => h.run pins s σ H D I (f D σ H q)⟩
theorem pss_weak {X : Cx} {st : List Stmt} {t t' : TS} (h : PSs X st t) (f : ∀ D σ H, t' D σ H → t D σ H) : PSs X st t' := ⟨fun pins s σ H D I q => h.run pins s σ H D I (f D σ H q)⟩

section
variable {X : Cx} {Φ : List FE} {gk : List (Str × D)} {k : Nat}
theorem sndN {N : List Str} {sc : Scope} : ∀ {es : List Expr} {ms : MEs}, TrEs Φ gk N sc es ms → XC X Φ gk k → X.N = N → X.env.scope = sc → PA X es (tNs X.w Φ ms)
  | _, _, .nil, C, hN, hs => n_nil
  | _, _, .cons e r, C, hN, hs => n_cons (snd e X C hN hs) e.ns (sndN r C hN hs)
  | _, _, .star e r, C, hN, hs => ⟨fun pins p s σ H Q I ⟨g, G, ρ, t, ds, s', E, gl, ee, an, q⟩ => by cases an⟩
theorem slot_q {m : ME} {d : D} {y : SS} (h : ∀ ms, m ≠ .lst ms) : slotOf Φ .q m d ≠ some y := by
  cases m <;> first | (simp [slotOf]; done) | exact absurd rfl (h _)
theorem trB_two {N : List Str} {sc : Scope} {o : BoolOp} {a b : Expr} {es : List Expr} {m : ME} (h : TrB Φ gk N sc o (a :: b :: es) m) : ∀ ms, m ≠ .lst ms := by
  intro ms z
  subst z
  generalize he : a :: b :: es = l at h
  generalize hm : ME.lst ms = m at h
  cases h with
  | one h => cases he
  | cons h1 h2 => cases o <;> cases hm
theorem q_never {e : Expr} {m : ME} (h : ∀ ms, m ≠ .lst ms) : PE X e (tM X.w Φ .q m) := by
  refine ⟨fun pins s σ H Q I ⟨g, G0, H0, F, A, τ, ρ, π, s0, x, s1, E, hl, hv, k⟩ => ?_⟩
  unfold evM at hv
  obtain ⟨⟨d, s2⟩, h1, h2'⟩ := bind_some hv
  obtain ⟨y, h2, h3'⟩ := map_some h2'
  exact absurd h2 (slot_q h)
theorem sndM {N : List Str} {sc : Scope} {e : Expr} {m : ME} (md : Mode) (h : TrE Φ gk N sc e m) (C : XC X Φ gk k) (hN : X.N = N) (hs : X.env.scope = sc) : PE X e (tM X.w Φ md m) := by
  by_cases hq : md = .q
  · subst hq
    cases h with
    | lst h => exact m_q (sndN h C hN hs)
    | bo h => exact q_never (trB_two h)
    | _ => exact q_never fun ms z => nomatch z
  · exact pe_weak (snd h X C hN hs).pe fun σ H Q q => tM_of hq q
end

section
variable {w : World} {Φ : List FE}
theorem a_set {i : Nat} {md : Mode} {m : ME} {D : Ends} {σ : L2.St} {H : Hp} (h : tS w Φ (.set i md m) D σ H) : tAsg (tM w Φ md m) (gName i) D σ H := by
  obtain ⟨g, G0, H0, F, A, ρ, s, r, E, hr, ho⟩ := h
  rw [run] at hr
  obtain ⟨⟨x, s1⟩, h1, h2⟩ := bind_some hr
  dsimp only at h2
  split at h2
  · rename_i hi
    cases h2
    refine ⟨g, G0, H0, F, A, [], ρ, [], s, x, s1, by simpa using E, E.len, h1, fun v H1 F1 A1 E1 kg ff => ?_⟩
    obtain ⟨A2, E2⟩ := SR.move (τ := []) (π := []) (by simpa using E1) E.len hi
    exact ho _ H1 F1 A2 (by simpa using E2) kg ff
  · cases h2
theorem a_par {i j : Nat} {m1 m2 : Mode} {e1 e2 : ME} {D : Ends} {σ : L2.St} {H : Hp} {Q : List V → Hp → Prop} (h : tS w Φ (.par2 i j m1 m2 e1 e2) D σ H)
    (q : ∀ v u H2 g G0 H0 F F2 A2 ρ x y s2, SR w g G0 H0 F2 A2 (σ ++ [some v, some u]) H2 (ρ ++ [x, y]) s2 → ρ.length = σ.length → i < ρ.length → j < ρ.length → i ≠ j → KeepG F H H2 → (∀ b, F b → F2 b) → EndOk w g G0 H0 F H true D (.nx ((ρ.set i x).set j y) s2) → Q [v, u] H2) : tCons (tM w Φ m1 e1) (tCons (tM w Φ m2 e2) tNil) σ H Q := by
  obtain ⟨g, G0, H0, F, A, ρ, s, r, E, hr, ho⟩ := h
  rw [run] at hr
  obtain ⟨⟨x, s1⟩, h1, h2⟩ := bind_some hr
  obtain ⟨⟨y, s2⟩, h3, h4⟩ := bind_some h2
  dsimp only at h4
  split at h4
  · rename_i hi
    cases h4
    refine ⟨g, G0, H0, F, A, [], ρ, [], s, x, s1, by simpa using E, E.len, h1, fun v H1 F1 A1 E1 kg ff => ?_⟩
    refine ⟨g, G0, H0, F1, A1, [] ++ [some v], ρ, [] ++ [x], s1, y, s2, E1, E.len, h3, fun u H2 F2 A2 E2 kg2 ff2 => ?_⟩
    exact q v u H2 g G0 H0 F F2 A2 ρ x y s2 (by simpa using E2) E.len hi.1 hi.2.1 hi.2.2 (kg.trans' kg2 ff) (fun b z => ff2 b (ff b z)) ho
  · cases h4
theorem par_fin {g : Option (Addr × Addr)} {G0 : Addr → Prop} {H0 : Hp} {F F2 : Addr → Prop} {A2 : Nat → List Addr} {σ : L2.St} {H H2 : Hp} {ρ : LSS} {x y : SS} {v u : V} {s2 : S1} {D : Ends} {i j : Nat} (E : SR w g G0 H0 F2 A2 (σ ++ [some v, some u]) H2 (ρ ++ [x, y]) s2) (hl : ρ.length = σ.length) (hi : i < ρ.length) (hj : j < ρ.length)
    (kg : KeepG F H H2) (ff : ∀ b, F b → F2 b) (ho : EndOk w g G0 H0 F H true D (.nx ((ρ.set i x).set j y) s2)) : D.nx ((σ.set i (some v)).set j (some u)) H2 := by
  obtain ⟨A3, E3⟩ := SR.move (σ := σ) (τ := [some u]) (π := [y]) (by simpa using E) hl hi
  obtain ⟨A4, E4⟩ := SR.move (σ := σ.set i (some v)) (τ := []) (π := []) (by simpa using E3) (by rw [List.length_set, List.length_set, hl]) (by rw [List.length_set]; exact hj)
  exact ho _ H2 F2 A4 (by simpa using E4) kg ff
theorem a_parS {i j : Nat} {m1 m2 : Mode} {e1 e2 : ME} {D : Ends} {σ : L2.St} {H : Hp} (h : tS w Φ (.par2 i j m1 m2 e1 e2) D σ H) : tPar i j (tCons (tM w Φ m1 e1) (tCons (tM w Φ m2 e2) tNil)) D σ H :=
  a_par h fun v u H2 g G0 H0 F F2 A2 ρ x y s2 E hl hi hj hij kg ff ho => ⟨v, u, rfl, par_fin E hl hi hj kg ff ho⟩
theorem a_parO {K : PySem.W.Frag} {i j : Nat} {m1 m2 : Mode} {e1 e2 : ME} {D : Ends} {σ : L2.St} {H : Hp} (h : tS w Φ (.par2 i j m1 m2 e1 e2) D σ H) :
    tAsg (fun σ H Q => tCons (tM w Φ m1 e1) (tCons (tM w Φ m2 e2) tNil) σ H fun xs H1 => xs.length ≤ sizeLine ∧ TupO H1 Q xs) (gTup K 2 (gCons (gName i) (gCons (gName j) gNil))) D σ H := by
  unfold tAsg
  exact a_par h fun v u H2 g G0 H0 F F2 A2 ρ x y s2 E hl hi hj hij kg ff ho => ⟨by show 2 ≤ sizeLine; decide, fun p o hp ho' => ⟨p, [v, u], rfl, SqT.fz upd_same, rfl, v, [u], rfl, u, [], rfl, rfl,
    par_fin (E.step (Keep.of (same_new hp)) (E.src.same (same_new hp))) hl hi hj ⟨fun b o z e => same_new hp _ _ (kg.1 b o z e), fun b o xs e => same_new hp _ _ (kg.2 b o xs e)⟩ ff ho⟩⟩
theorem a_unp {K : PySem.W.Frag} {t : MT} {md : Mode} {m : ME} {D : Ends} {σ : L2.St} {H : Hp} (h : tS w Φ (.unp t md m) D σ H) : tAsg (tM w Φ md m) (gM K t) D σ H := by
  obtain ⟨g, G0, H0, F, A, ρ, s, r, E, hr, ho⟩ := h
  rw [run] at hr
  obtain ⟨⟨x, s1⟩, h1, h2⟩ := bind_some hr
  dsimp only at h2
  split at h2
  · obtain ⟨ρ1, h3, h4⟩ := map_some h2
    cases h4
    refine ⟨g, G0, H0, F, A, [], ρ, [], s, _, s1, by simpa using E, E.len, h1, fun v H1 F1 A1 E1 kg ff => ?_⟩
    have E1' := E1
    rw [List.nil_append, List.nil_append] at E1'
    obtain ⟨u, hu, hd⟩ := E1'.last E.len
    cases hu
    exact gmS_run t h3 hd (E1'.pop E.len) fun σ2 A2 E2 => ho _ H1 F1 A2 E2 kg ff
  · cases h2
theorem a_app {K : PySem.W.Frag} {i : Nat} {md : Mode} {m : ME} {D : Ends} {σ : L2.St} {H : Hp} (h : tS w Φ (.app i md m) D σ H) : tDrop (tBM K "list" rAppend (tVar i) (tCons (tM w Φ md m) tNil)) D σ H := by
  obtain ⟨g, G0, H0, F, A, ρ, s, r, E, hr, ho⟩ := h
  rw [run] at hr
  split at hr
  · rename_i xs hxs
    obtain ⟨⟨x, s1⟩, h1, h2⟩ := bind_some hr
    dsimp only at h2
    split at h2
    · rename_i d
      split at h2
      · rename_i hz
        cases h2
        obtain ⟨a, vs, q1, q2, q3, q4⟩ := E.slot i _ hxs
        refine ⟨_, q2, .inl ⟨rfl, vs, SqL.of q3⟩, g, G0, H0, F, A, [], ρ, [], s, _, s1, by simpa using E, E.len, h1, fun v H1 F1 A1 E1 kg ff => ?_⟩
        have E1' := E1
        rw [List.nil_append, List.nil_append] at E1'
        obtain ⟨u, hu, hd⟩ := E1'.last E.len
        cases hu
        obtain ⟨b, us, p1, p2, p3, p4, p5⟩ := (E1'.pop E.len).app hxs hd
        rw [q2] at p1
        cases p1
        exact ⟨_, us, v, rfl, rfl, p2, by omega, ho _ _ F1 A1 p5 (kg.trans' p4 ff) ff⟩
      · cases h2
    · cases h2
  · cases hr
theorem r_ret {g : Option (Addr × Addr)} {G0 : Addr → Prop} {H0 : Hp} {F : Addr → Prop} {A : Nat → List Addr} {σ : L2.St} {H H1 : Hp} {ρ : LSS} {s s1 : S1} {v : V} {d : D} (E : SR w g G0 H0 F A σ H ρ s) (p : Ps w g (FA F A) H H1 v d s1) : Ps w g G0 H0 H1 v d s1 :=
  ⟨E.keep.trans p.keep, p.src, p.dat.mono fun b z => z.elim (fun z => z.elim (E.sub b) fun ⟨i, hb⟩ => .inr (E.new i b hb).1) fun e => .inr (E.keep.alive E.src e)⟩
theorem r_retN {g : Option (Addr × Addr)} {G0 : Addr → Prop} {H0 : Hp} {F : Addr → Prop} {A : Nat → List Addr} {σ : L2.St} {H H1 : Hp} {ρ : LSS} {s : S1} {v : V} {d : D} (E : SR w g G0 H0 F A σ H ρ s) (n : NewL w (FA F A) H H1 v d) : NewL w G0 H0 H1 v d := by
  obtain ⟨p, vs, ds, e1, e2, e3, e4, e5⟩ := n
  exact ⟨p, vs, ds, e1, e2, E.keep.alive E.src e3, e4, e5.mono fun b z => ⟨z.1.elim (fun z => z.elim (E.sub b) fun ⟨i, hb⟩ => .inr (E.new i b hb).1) fun e => .inr (E.keep.alive E.src e), z.2⟩⟩
theorem a_ret {m : ME} {D : Ends} {σ : L2.St} {H : Hp} (h : tS w Φ (.ret m) D σ H) : tRet (tE w Φ m) D σ H := by
  obtain ⟨g, G0, H0, F, A, ρ, s, r, E, hr, ho⟩ := h
  rw [run] at hr
  obtain ⟨⟨d, s1⟩, h1, h2⟩ := map_some hr
  cases h2
  exact ⟨g, _, _, s, d, s1, SR.esR (τ := []) (π := []) (by simpa using E) E.len, h1, fun v H1 p n => ho v H1 (r_ret E p) fun z => r_retN E (n z)⟩
theorem a_retO {i : Nat} {D : Ends} {σ : L2.St} {H : Hp} (h : tS w Φ (.retO i) D σ H) : tRet (tVar i) D σ H := by
  obtain ⟨g, G0, H0, F, A, ρ, s, r, E, hr, ho⟩ := h
  rw [run] at hr
  split at hr
  · rename_i xs hxs
    cases hr
    obtain ⟨a, vs, q1, q2, q3, q4⟩ := E.slot i _ hxs
    have hai : a ∈ A i := by rw [q1]; exact List.mem_singleton.mpr rfl
    have hn := E.new i a hai
    refine ⟨_, q2, ho _ H ⟨E.keep, E.src, .list (.inr hn.1) q3 (q4.mono fun b z => E.sub b z)⟩ fun _ => ⟨a, vs, xs, rfl, rfl, hn.1, q3, q4.mono fun b z => ⟨E.sub b z, fun e => ?_⟩⟩⟩
    subst e
    exact hn.2 z
  · cases hr
theorem a_drop {m : ME} {D : Ends} {σ : L2.St} {H : Hp} (h : tS w Φ (.drop m) D σ H) : tDrop (tE w Φ m) D σ H := by
  obtain ⟨g, G0, H0, F, A, ρ, s, r, E, hr, ho⟩ := h
  rw [run] at hr
  obtain ⟨⟨d, s1⟩, h1, h2⟩ := map_some hr
  cases h2
  exact ⟨g, _, _, s, d, s1, SR.esR (τ := []) (π := []) (by simpa using E) E.len, h1, fun v H1 p n => ho _ H1 F A (E.step p.keep p.src) (E.kg p.keep) fun _ z => z⟩
theorem a_ite {c : ME} {a b : MSs} {D : Ends} {σ : L2.St} {H : Hp} (h : tS w Φ (.ite c a b) D σ H) : tIfS (tT w Φ c) (tSs w Φ a) (tSs w Φ b) D σ H := by
  obtain ⟨g, G0, H0, F, A, ρ, s, r, E, hr, ho⟩ := h
  rw [run] at hr
  obtain ⟨⟨d, s1⟩, h1, h2⟩ := bind_some hr
  obtain ⟨t, h3, h4⟩ := bind_some h2
  refine ⟨g, _, _, s, d, s1, t, SR.esR (τ := []) (π := []) (by simpa using E) E.len, h1, h3, fun H1 k1 r1 => ?_⟩
  have nw : newM Φ (.ite c a b) = (newMs Φ a && newMs Φ b) := rfl
  cases t with
  | true => exact ⟨g, G0, H0, F, A, ρ, s1, r, E.step k1 r1, h4, ho.from (E.kg k1) (fun _ z => z) fun z => by
      rw [nw, Bool.and_eq_true] at z
      exact z.1⟩
  | false => exact ⟨g, G0, H0, F, A, ρ, s1, r, E.step k1 r1, h4, ho.from (E.kg k1) (fun _ z => z) fun z => by
      rw [nw, Bool.and_eq_true] at z
      exact z.2⟩
theorem a_brk {D : Ends} {σ : L2.St} {H : Hp} (h : tS w Φ .brk D σ H) : tBreak D σ H := by
  obtain ⟨g, G0, H0, F, A, ρ, s, r, E, hr, ho⟩ := h
  cases hr
  exact ho _ H F A E KeepG.rfl' fun _ z => z
theorem a_cnt {D : Ends} {σ : L2.St} {H : Hp} (h : tS w Φ .cnt D σ H) : tCont D σ H := by
  obtain ⟨g, G0, H0, F, A, ρ, s, r, E, hr, ho⟩ := h
  cases hr
  exact ho _ H F A E KeepG.rfl' fun _ z => z
theorem a_pass {D : Ends} {σ : L2.St} {H : Hp} (h : tS w Φ .pass D σ H) : tNext D σ H := by
  obtain ⟨g, G0, H0, F, A, ρ, s, r, E, hr, ho⟩ := h
  cases hr
  exact ho _ H F A E KeepG.rfl' fun _ z => z
theorem a_cons {m : MS} {r : MSs} {D : Ends} {σ : L2.St} {H : Hp} (h : tSs w Φ (.cons m r) D σ H) : tSeq (tS w Φ m) (tSs w Φ r) D σ H := by
  obtain ⟨g, G0, H0, F, A, ρ, s, x, E, hr, ho⟩ := h
  rw [runs] at hr
  obtain ⟨y, h1, h2⟩ := bind_some hr
  have nw : newMs Φ (.cons m r) = (newM Φ m && newMs Φ r) := rfl
  rw [nw] at ho
  refine ⟨g, G0, H0, F, A, ρ, s, y, E, h1, ?_⟩
  cases y with
  | nx ρ1 s1 => exact fun σ1 H1 F1 A1 E1 kg ff => ⟨g, G0, H0, F1, A1, ρ1, s1, x, E1, h2, ho.from kg ff fun z => by
      rw [Bool.and_eq_true] at z
      exact z.2⟩
  | bk ρ1 s1 => cases h2; exact ho
  | ct ρ1 s1 => cases h2; exact ho
  | rt d s1 =>
    cases h2
    exact fun v H1 p q => ho v H1 p fun z => q (by
      rw [Bool.and_eq_true] at z
      exact z.1)
theorem a_nil {D : Ends} {σ : L2.St} {H : Hp} (h : tSs w Φ .nil D σ H) : tNext D σ H := by
  obtain ⟨g, G0, H0, F, A, ρ, s, x, E, hr, ho⟩ := h
  cases hr
  exact ho _ H F A E KeepG.rfl' fun _ z => z
/-- a ghost: a slot's own stays from now on -/
theorem a_frz {i : Nat} {r : MSs} {D : Ends} {σ : L2.St} {H : Hp} (h : tSs w Φ (.cons (.frz i) r) D σ H) : tSs w Φ r D σ H := by
  obtain ⟨g, G0, H0, F, A, ρ, s, x, E, hr, ho⟩ := h
  rw [runs] at hr
  obtain ⟨y, h1, h2⟩ := bind_some hr
  have nw : newMs Φ (.cons (.frz i) r) = (newM Φ (.frz i) && newMs Φ r) := rfl
  have n2 : newMs Φ (.cons (.frz i) r) = true → newMs Φ r = true := fun z => by
    rw [nw, Bool.and_eq_true] at z
    exact z.2
  rw [run] at h1
  have go : ∀ {xs : List PyData}, (∃ v, σ[i]? = some (some v) ∧ Dat w (fun b => F b ∨ b ∈ A i) H v (.list xs)) → runs Φ r (ρ.set i (.frz (.list xs))) s = some x → i < ρ.length → tSs w Φ r D σ H := fun {xs} hx hr hl => by
    refine ⟨g, G0, H0, fun b => F b ∨ b ∈ A i, fun j => if j = i then [] else A j, ρ.set i (.frz (.list xs)), s, x, ⟨E.src0, fun b z => z.elim (E.sub b) fun z => .inr (E.new i b z).1, fun b z => z.elim (E.gok b) fun z => E.nown z, E.keep, E.src, by rw [List.length_set]; exact E.len, fun j y e => ?_, fun j b hb => ?_, fun j l b h1 h2 => ?_, fun j b hb => ?_, fun b z => z.elim (E.fl b) fun z => E.alive i b z⟩, hr, ho.from KeepG.rfl' (fun b z => .inl z) n2⟩
    · by_cases hj : i = j
      · subst hj
        rw [List.getElem?_set_self hl] at e
        cases e
        exact hx
      · rw [List.getElem?_set_ne hj] at e
        simp only [Ne.symm hj, if_false]
        exact (E.slot j y e).go (fun _ _ _ q => q) (fun v d q => q.mono fun b z => .inl z) (fun v d q => q.mono fun b z => .inl z)
    · split at hb
      · cases hb
      · rename_i hj
        exact ⟨(E.new j b hb).1, fun z => z.elim (E.new j b hb).2 fun z => hj (E.dis j i b hb z)⟩
    · split at h1
      · cases h1
      · split at h2
        · cases h2
        · exact E.dis j l b h1 h2
    · split at hb
      · cases hb
      · exact E.alive j b hb
  split at h1
  · rename_i xs hxs
    cases h1
    exact go ((E.slot i _ hxs).read rfl (fun b z => .inl z) fun b z => .inr z) h2 (List.getElem?_eq_some_iff.mp hxs).1
  · rename_i xss hxs
    cases h1
    exact go ((E.slot i _ hxs).read rfl (fun b z => .inl z) fun b z => .inr z) h2 (List.getElem?_eq_some_iff.mp hxs).1
  · cases h1
/-- a for loop -/
theorem a_for {K : PySem.W.Frag} {pr : Bool} {t : MT} {it : MI} {b : MSs} {D : Ends} {σ : L2.St} {H : Hp} (ht : pr = true → ∀ i, t ≠ .nm i) (h : tS w Φ (.for_ t it b) D σ H) : tFor (tI pr w Φ it) (gM K t) (tSs w Φ b) D σ H := by
  obtain ⟨g, G0, H0, F, A, ρ, s, r, E, hr, ho⟩ := h
  rw [run] at hr
  obtain ⟨⟨xs, s1⟩, h1, h2⟩ := bind_some hr
  refine ⟨g, F, _, s, xs, s1, SR.esF (τ := []) (π := []) (by simpa using E) E.len, h1, fun J H1 k1 r1 hJ => ?_⟩
  have E1 := E.grow k1 r1 fun _ => True
  have nw : newM Φ (.for_ t it b) = newMs Φ b := rfl
  rw [nw] at ho
  have kg1 : KeepG F H H1 := E.kg k1
  refine for_it hJ (fun i σ Hc => ∃ Fi Ai ρi si, SR w g G0 H0 Fi Ai σ Hc ρi si ∧ KeepG (fun b => F b ∨ (H b = none ∧ H1 b ≠ none ∧ True)) H1 Hc ∧ (∀ b, (F b ∨ (H b = none ∧ H1 b ≠ none ∧ True)) → Fi b) ∧ forRun (runs Φ b) t (xs.drop i) ρi si = some r)
    ⟨_, A, ρ, s1, E1, KeepG.rfl', fun _ z => z, by simpa using h2⟩ (fun i σ Hc hi ⟨Fi, Ai, ρi, si, a1, a2, a3, a4⟩ => ?_) (fun i x σ Hc Hx hi ⟨Fi, Ai, ρi, si, a1, a2, a3, a4⟩ hy => ?_) fun σ Hc ⟨Fi, Ai, ρi, si, a1, a2, a3, a4⟩ => ?_
  · exact ⟨fun c o z e => a2.1 c o (z.1.elim .inl fun q => .inr ⟨q, z.2, trivial⟩) e, a2.2⟩
  · obtain ⟨sm, d, hd, itm⟩ := hy
    have hdr : xs.drop i = d :: xs.drop (i + 1) := by
      obtain ⟨hl, hv⟩ := List.getElem?_eq_some_iff.mp hd
      rw [← hv]
      exact List.drop_eq_getElem_cons hl
    rw [hdr, forRun] at a4
    obtain ⟨ρ1, b1, a4⟩ := bind_some a4
    obtain ⟨r1', b2, a4⟩ := bind_some a4
    have lift : ∀ {v : V} {x : PyData}, Dat w (fun b => Up F H b ∧ H1 b ≠ none) Hx v x → Dat w Fi Hx v x := fun {v x} q => q.mono fun c z => a3 c (z.1.elim .inl fun e => .inr ⟨e, z.2, trivial⟩)
    have itm' : ItemR pr w Fi Hx x d := by
      rcases itm with q | ⟨hp, T, x1, x2, dx, dy, e0, e1, q, q', e2⟩
      · exact .inl (lift q)
      · exact .inr ⟨hp, T, x1, x2, dx, dy, e0, e1, lift q, lift q', e2⟩
    have a1' := a1.step (Keep.of sm) (a1.src.same sm)
    refine gmS_item t ht b1 itm' a1' fun σ2 A2 E2 => ⟨g, G0, H0, Fi, A2, ρ1, si, r1', E2, b2, ?_⟩
    have kgx : KeepG (fun b => F b ∨ (H b = none ∧ H1 b ≠ none ∧ True)) H1 Hx := ⟨fun c o z e => sm _ _ (a2.1 c o z e), fun c o ys e => sm _ _ (a2.2 c o ys e)⟩
    have again : ∀ ρ2 s2, forRun (runs Φ b) t (xs.drop (i + 1)) ρ2 s2 = some r → ∀ (σ3 : L2.St) H3 F3 A3, SR w g G0 H0 F3 A3 σ3 H3 ρ2 s2 → KeepG Fi Hx H3 → (∀ b, Fi b → F3 b) → ∃ Fi Ai ρi si, SR w g G0 H0 Fi Ai σ3 H3 ρi si ∧ KeepG (fun b => F b ∨ (H b = none ∧ H1 b ≠ none ∧ True)) H1 H3 ∧ (∀ b, (F b ∨ (H b = none ∧ H1 b ≠ none ∧ True)) → Fi b) ∧ forRun (runs Φ b) t (xs.drop (i + 1)) ρi si = some r :=
      fun ρ2 s2 hf σ3 H3 F3 A3 E3 kg3 ff3 => ⟨F3, A3, ρ2, s2, E3, kgx.trans' kg3 a3, fun c z => ff3 c (a3 c z), hf⟩
    cases r1' with
    | nx ρ2 s2 => exact again ρ2 s2 a4
    | ct ρ2 s2 => exact again ρ2 s2 a4
    | bk ρ2 s2 =>
      cases a4
      exact fun σ3 H3 F3 A3 E3 kg3 ff3 => ho σ3 H3 F3 A3 E3 (kg1.trans' (kgx.trans' kg3 a3) fun c z => .inl z) fun c z => ff3 c (a3 c (.inl z))
    | rt d2 s2 =>
      cases a4
      exact ho
  · have e0 : xs.drop xs.length = [] := List.drop_length ..
    rw [e0, forRun] at a4
    cases a4
    exact ho σ Hc Fi Ai a1 (kg1.trans' a2 fun c z => .inl z) fun c z => a3 c (.inl z)
end
end Os
end
section
set_option linter.all false
set_option maxRecDepth 100000
set_option maxHeartbeats 4000000
/-! OsS: statements of the program's text against the small language's; their soundness. -/
namespace Os
open PySem PySem.Spec PyProof.Rows L2

mutual
inductive TrS (Φ : List FE) (gk : List (Str × D)) (N : List Str) (sc : Scope) : Stmt → MS → Prop
  | set {i : Nat} {x : Str} {e : Expr} {m : ME} {p pos : Pos} (md : Mode) : N[i]? = some x → Loc sc x → TrE Φ gk N sc e m → (∀ env, swapsWith e (some (.Name x p)) pos.line env = pure false) → TrS Φ gk N sc (.Assign [.Name x p] e pos) (.set i md m)
  | setL {i : Nat} {x : Str} {elt : Expr} {gs : List Comprehension} {scope : Scope} {m : ME} {p cpos pos : Pos} (md : Mode) : N[i]? = some x → sc.names.lookup x = some .local → TrE Φ gk N sc (.ListComp elt gs scope cpos) m → (p.line == cpos.line) = true →
      (scope.names.any fun (n, k) => n == x && (k == .local || k == .cell)) = false → md ≠ .q → TrS Φ gk N sc (.Assign [.Name x p] (.ListComp elt gs scope cpos) pos) (.set i md m)
  | setC {i : Nat} {x : Str} {elt : Expr} {gs : List Comprehension} {scope : Scope} {m : ME} {p cpos pos : Pos} (md : Mode) : N[i]? = some x → sc.names.lookup x = some .cell → TrE Φ gk N sc (.ListComp elt gs scope cpos) m → TrS Φ gk N sc (.Assign [.Name x p] (.ListComp elt gs scope cpos) pos) (.set i md m)
  | par2 {i j : Nat} {x y : Str} {a b : Expr} {ma mb : ME} {px py pt pt2 pos : Pos} {kt k2 : Nat} (m1 m2 : Mode) : N[i]? = some x → N[j]? = some y → i ≠ j → (x == y) = false → sc.names.lookup x = some .local → sc.names.lookup y = some .local → (px.line == py.line) = true →
      TrE Φ gk N sc a ma → TrE Φ gk N sc b mb → (foldedForSure 8 a && foldedForSure 8 b) = false → (constantsAlone 8 a && constantsAlone 8 b) = false →
      TrS Φ gk N sc (.Assign [.Tuple [.Name x px, .Name y py] kt pt] (.Tuple [a, b] k2 pt2) pos) (.par2 i j m1 m2 ma mb)
  | par2O {i j : Nat} {x y : Str} {a b : Expr} {ma mb : ME} {px py pt pt2 pos : Pos} {kt k2 : Nat} (m1 m2 : Mode) : N[i]? = some x → N[j]? = some y → Loc sc x → Loc sc y →
      (sc.names.lookup x == some .local && sc.names.lookup y == some .local && !(foldedForSure 8 a && foldedForSure 8 b)) = false →
      TrE Φ gk N sc a ma → TrE Φ gk N sc b mb → TrS Φ gk N sc (.Assign [.Tuple [.Name x px, .Name y py] kt pt] (.Tuple [a, b] k2 pt2) pos) (.par2 i j m1 m2 ma mb)
  | unp {tg e : Expr} {t : MT} {m : ME} {pos : Pos} (md : Mode) : TrT N (fun _ => true) sc tg t → TrE Φ gk N sc e m → (∀ env, swapsWithSole [tg] e pos.line env = pure false) → (∀ env, swappedStores [tg] e env = pure none) → TrS Φ gk N sc (.Assign [tg] e pos) (.unp t md m)
  | app {i : Nat} {x : Str} {e : Expr} {m : ME} {p ap cp pos : Pos} (md : Mode) : N[i]? = some x → Vis sc x → (x == ("__debug__" : Str)) = false → (x == ("__classdict__" : Str)) = false → TrE Φ gk N sc e m → (ap.endLine == cp.line) = true →
      TrS Φ gk N sc (.Expr (.Call (.Attribute (.Name x p) "append" ap) [e] [] cp) pos) (.app i md m)
  | ret {e : Expr} {m : ME} {pos : Pos} : TrE Φ gk N sc e m → TrS Φ gk N sc (.Return (some e) pos) (.ret m)
  | retO {i : Nat} {x : Str} {p pos : Pos} : N[i]? = some x → Vis sc x → (x == ("__debug__" : Str)) = false → (x == ("__classdict__" : Str)) = false → TrS Φ gk N sc (.Return (some (.Name x p)) pos) (.retO i)
  | ite {c : Expr} {a b : List Stmt} {mc : ME} {ma mb : MSs} {pos : Pos} : TrE Φ gk N sc c mc → TrSs Φ gk N sc a ma → TrSs Φ gk N sc b mb → TrS Φ gk N sc (.If c a b pos) (.ite mc ma mb)
  | for_ {tg iter : Expr} {b : List Stmt} {t : MT} {it : MI} {mb : MSs} {pos : Pos} : TrT N (fun _ => true) sc tg t → TrI Φ gk N sc (isTup tg) iter it → TrSs Φ gk N sc b mb → (∀ env x, foldedSetIterable iter env x = pure x) → TrS Φ gk N sc (.For tg iter b [] pos) (.for_ t it mb)
  | brk {pos : Pos} : TrS Φ gk N sc (.Break pos) .brk
  | cnt {pos : Pos} : TrS Φ gk N sc (.Continue pos) .cnt
  | pass {pos : Pos} : TrS Φ gk N sc (.Pass pos) .pass
  | doc {x : Str} {j : Nat} {p pos : Pos} : TrS Φ gk N sc (.Expr (.Constant (.str x) j p) pos) .pass
  | bad {st : Stmt} : TrS Φ gk N sc st .bad
  | drop {e : Expr} {m : ME} {pos : Pos} : TrE Φ gk N sc e m → (∀ env, swapsWith e none pos.line env = pure false) → TrS Φ gk N sc (.Expr e pos) (.drop m)
  | spoil {i j : Nat} {x y : Str} {p1 p2 p3 p4 ap cp ep pos : Pos} {k : Nat} : N[i]? = some x → N[j]? = some y → Vis sc x → Loc sc y → (x == ("__debug__" : Str)) = false → (x == ("__classdict__" : Str)) = false → (y == ("__debug__" : Str)) = false → (y == ("__classdict__" : Str)) = false → (ap.endLine == cp.line) = true →
      TrS Φ gk N sc (.For (.Name y p1) (.Name x p2) [.Expr (.Call (.Attribute (.Name y p3) "append" ap) [.Constant .none k p4] [] cp) ep] [] pos) (.spoil i j)
inductive TrSs (Φ : List FE) (gk : List (Str × D)) (N : List Str) (sc : Scope) : List Stmt → MSs → Prop
  | nil : TrSs Φ gk N sc [] .nil
  | cons {st : Stmt} {r : List Stmt} {m : MS} {ms : MSs} : TrS Φ gk N sc st m → TrSs Φ gk N sc r ms → TrSs Φ gk N sc (st :: r) (.cons m ms)
  | frz {r : List Stmt} {ms : MSs} (i : Nat) : TrSs Φ gk N sc r ms → TrSs Φ gk N sc r (.cons (.frz i) ms)
end

theorem TrT.up {N : List Str} {fn fn' : Str → Bool} {sc : Scope} (h : ∀ x, fn' x = true) : ∀ {e : Expr} {t : MT}, TrT N fn sc e t → TrT N fn' sc e t
  | _, _, .nm h1 h2 h3 => .nm h1 h2 (.inl (h _))
  | _, _, .two a b => .two (a.up h) (b.up h)
  | _, _, .three a b c => .three (a.up h) (b.up h) (c.up h)
  | _, _, .four a b c d => .four (a.up h) (b.up h) (c.up h) (d.up h)
def isStar : Expr → Bool
  | .Starred .. => true
  | _ => false
theorem TrE.nst {Φ : List FE} {gk : List (Str × D)} {N : List Str} {sc : Scope} {e : Expr} {m : ME} (h : TrE Φ gk N sc e m) : isStar e = false := by
  cases h <;> rfl

/-! ### how the text's assignments are stored -/
theorem sw_cell {elt : Expr} {gs : List Comprehension} {scope : Scope} {pos py : Pos} {y : Str} {l : Nat} {env : Env} (hy : env.scope.names.lookup y = some .cell) : swapsWith (.ListComp elt gs scope pos) (some (.Name y py)) l env = pure false := by
  have ky : env.kindOf y = some .cell := hy
  unfold swapsWith
  simp only [ky]
  have e : ((some NameKind.cell : Option NameKind) == some NameKind.local) = false := rfl
  rw [e, Bool.and_false, Bool.false_and, Bool.false_and]
theorem sw2_yes {env : Env} {x y : Str} {px py pt pt2 : Pos} {kt k2 : Nat} {a b : Expr} (hk : env.scope.kind = .function) (hx : env.scope.names.lookup x = some .local) (hy : env.scope.names.lookup y = some .local) (hl : (px.line == py.line) = true) (hne : (x == y) = false)
    (na : isStar a = false) (nb : isStar b = false) (hf : (foldedForSure 8 a && foldedForSure 8 b) = false) (hc : (constantsAlone 8 a && constantsAlone 8 b) = false) :
    swappedStores [.Tuple [.Name x px, .Name y py] kt pt] (.Tuple [a, b] k2 pt2) env = pure (some [x, y]) := by
  have kx : env.kindOf x = some .local := hx
  have ky : env.kindOf y = some .local := hy
  have hb : env.blockKind = .function := by unfold Env.blockKind; rw [hk]; rfl
  have hl' : py.line == px.line := by
    have := eq_of_beq hl
    rw [this]
    exact beq_self_eq_true _
  have hyx : (y == x) = false := by
    cases q : y == x with
    | false => rfl
    | true =>
      rw [eq_of_beq q] at hne
      simp at hne
  have e1 : [a, b].any isStar = false := by
    simp only [List.any_cons, List.any_nil, Bool.or_false]
    rw [Bool.or_eq_false_iff]
    exact ⟨na, nb⟩
  have e2 : [a, b].all (foldedForSure 8) = false := by simpa using hf
  have e3 : [a, b].all (constantsAlone 8) = false := by simpa using hc
  have e5 : [x, y].eraseDups.length = 2 := by
    simp [List.eraseDups_cons, hyx, List.filter]
  unfold swappedStores
  refine (if_neg ?_).trans ?_
  · simp [hb]
  refine (if_neg ?_).trans ?_
  · exact fun h => Bool.noConfusion (e1.symm.trans h)
  refine (if_neg ?_).trans ?_
  · simp [kx, ky, Expr.pos, hl', eq_of_beq hl', e5]
  refine (if_neg ?_).trans ?_
  · rw [e2]
    exact Bool.false_ne_true
  refine (if_neg ?_).trans ?_
  · rw [e3]
    exact Bool.false_ne_true
  · have ep : ([Expr.Name x px, Expr.Name y py].head?.map (·.pos.line)).getD 0 = px.line := rfl
    simp [kx, ky, Expr.pos, hl', eq_of_beq hl']
theorem ite_none {c : Prop} [Decidable c] {a : Sem (Option (List Str))} (h : ¬ c → a = pure none) : (if c then pure none else a) = pure none := by
  by_cases q : c
  · rw [if_pos q]
  · rw [if_neg q]
    exact h q
theorem sw2_no {env : Env} {x y : Str} {px py pt pt2 : Pos} {kt k2 : Nat} {a b : Expr} (h : (env.scope.names.lookup x == some .local && env.scope.names.lookup y == some .local && !(foldedForSure 8 a && foldedForSure 8 b)) = false) :
    swappedStores [.Tuple [.Name x px, .Name y py] kt pt] (.Tuple [a, b] k2 pt2) env = pure none := by
  have hx : env.kindOf x = env.scope.names.lookup x := rfl
  have hy : env.kindOf y = env.scope.names.lookup y := rfl
  unfold swappedStores
  refine ite_none fun _ => ite_none fun _ => ite_none fun h3 => ite_none fun h4 => ?_
  exfalso
  rw [← hx, ← hy] at h
  have h4' : (foldedForSure 8 a && foldedForSure 8 b) = false := by simpa using h4
  rw [h4'] at h
  have q : (env.kindOf x == some .local) = false ∨ (env.kindOf y == some .local) = false := by
    cases q1 : env.kindOf x == some NameKind.local with
    | false => exact .inl rfl
    | true =>
      cases q2 : env.kindOf y == some NameKind.local with
      | false => exact .inr rfl
      | true =>
        rw [q1, q2] at h
        cases h
  apply h3
  rcases q with q | q
  · have e : ∀ l : List Str, (l.length = 2 → False) → (l.length != [Expr.Name x px, Expr.Name y py].length || l.eraseDups.length != l.length) = true := fun l hl => by
      rw [Bool.or_eq_true]
      left
      simpa using hl
    apply e
    simp only [List.filterMap_cons, List.filterMap_nil, q, Bool.false_and, Bool.false_eq_true, if_false]
    intro z
    split at z <;> simp at z
  · have e : ∀ l : List Str, (l.length = 2 → False) → (l.length != [Expr.Name x px, Expr.Name y py].length || l.eraseDups.length != l.length) = true := fun l hl => by
      rw [Bool.or_eq_true]
      left
      simpa using hl
    apply e
    simp only [List.filterMap_cons, List.filterMap_nil, q, Bool.false_and, Bool.false_eq_true, if_false]
    intro z
    split at z <;> simp at z

section
variable {w : World} {g : Option (Addr × Addr)} {G0 : Addr → Prop} {H0 : Hp} {F : Addr → Prop} {A : Nat → List Addr} {σ : L2.St} {H : Hp} {ρ : LSS} {s : S1}
/-- a list of a slot that is no longer known is written -/
theorem SR.wr (E : SR w g G0 H0 F A σ H ρ s) {i : Nat} {p : Addr} {vs us : List V} (hp : p ∈ A i) (hi : ρ[i]? = some .un) (e : H p = some (.lst vs)) : SR w g G0 H0 F A σ (upd H p (.lst us)) ρ s ∧ KeepG F H (upd H p (.lst us)) := by
  have hn := E.new i p hp
  refine ⟨⟨E.src0, E.sub, E.gok, fun b o q n => upd_keep (ne_of_none q hn.1) (E.keep b o q n), E.src.upd (E.nown hp), E.len, fun j x q => ?_, E.new, E.dis, fun j b hb q => ?_, fun b hb q => ?_⟩, kg_wr e hn.2⟩
  · by_cases hj : i = j
    · subst hj
      rw [hi] at q
      cases q
      exact trivial
    · exact (E.slot j x q).wr e hn.2 fun z => hj (E.dis i j p hp z)
  · by_cases hb' : b = p
    · rw [hb', upd_same] at q
      cases q
    · rw [upd_ne hb'] at q
      exact E.alive j b hb q
  · by_cases hb' : b = p
    · rw [hb', upd_same] at q
      cases q
    · rw [upd_ne hb'] at q
      exact E.fl b hb q
theorem SR.forget {i : Nat} (E : SR w g G0 H0 F A σ H ρ s) : SR w g G0 H0 F A σ H (ρ.set i .un) s :=
  ⟨E.src0, E.sub, E.gok, E.keep, E.src, by rw [List.length_set, E.len], fun j y e => by
    by_cases hj : i = j
    · subst hj
      by_cases hl : i < ρ.length
      · rw [List.getElem?_set_self hl] at e
        cases e
        exact trivial
      · rw [List.getElem?_eq_none (by rw [List.length_set]; omega)] at e
        cases e
    · rw [List.getElem?_set_ne hj] at e
      exact E.slot j y e, E.new, E.dis, E.alive, E.fl⟩
theorem paired_mem {α β : Type} {R : α → β → Prop} {P : β → Prop} : ∀ {l : List α} {m : List β}, Paired R l m → (∀ y ∈ m, P y) → ∀ x ∈ l, ∃ y, R x y ∧ P y
  | _, _, .nil, _, x, h => nomatch h
  | _, _, .cons r t, f, x, h => by
    rcases List.mem_cons.mp h with e | e
    · subst e
      exact ⟨_, r, f _ List.mem_cons_self⟩
    · exact paired_mem t (fun y hy => f y (List.mem_cons_of_mem _ hy)) x e
theorem a_spoil {K : PySem.W.Frag} {Φ : List FE} {i j : Nat} {D : Ends} (h : tS w Φ (.spoil i j) D σ H) : tFor (iList K (tVar i)) (gName j) (tDrop (tBM K "list" rAppend (tVar j) (tCons (tC .non) tNil))) D σ H := by
  obtain ⟨g, G0, H0, F, A, ρ, s, r, E, hr, ho⟩ := h
  rw [run] at hr
  split at hr
  · rename_i xss hxs
    split at hr
    · rename_i hc
      cases hr
      obtain ⟨hz, hij, hj⟩ := hc
      obtain ⟨a, ps, q1, q2, q3, q4, q5⟩ := E.slot i _ hxs
      have hil : i < ρ.length := (List.getElem?_eq_some_iff.mp hxs).1
      refine ⟨_, q3, a, rfl, ⟨_, SqL.of q4⟩, ?_⟩
      have mem : ∀ p ∈ a :: ps, p ∈ A i := fun p hp => by rw [q1]; exact hp
      have hjs : j < σ.length := by rw [← E.len]; exact hj
      have nd : ps.Nodup := (List.nodup_cons.mp q2).2
      have hun : ((ρ.set i SS.un).set j SS.un)[i]? = some SS.un := by
        rw [List.getElem?_set_ne (Ne.symm hij), List.getElem?_set_self hil]
      refine for_list (xs := ps.map V.ref) (fun n σ' Hc => SR w g G0 H0 F A σ' Hc ((ρ.set i .un).set j .un) s ∧ KeepG F H Hc ∧ Hc a = some (.lst (ps.map V.ref)) ∧ ∀ p ∈ ps.drop n, ∃ vs, Hc p = some (.lst vs) ∧ vs.length < sizeLine) ?_ (fun n σ' Hc hn ⟨b1, b2, b3, b4⟩ => SqL.of b3) (fun n x σ' Hc hx ⟨b1, b2, b3, b4⟩ => ?_) fun σ' Hc ⟨b1, b2, b3, b4⟩ => ?_
      · refine ⟨E.forget.forget, KeepG.rfl', q4, fun p hp => ?_⟩
        rw [List.drop_zero] at hp
        obtain ⟨xs, ⟨vs, e1, e2⟩, e3⟩ := paired_mem (P := fun xs => xs.length < sizeLine) q5 (fun y hy => by simpa using List.all_eq_true.mp hz y hy) p hp
        exact ⟨vs, e1, by rw [e2.length]; exact e3⟩
      · rw [List.getElem?_map] at hx
        obtain ⟨p, hp, rfl⟩ := map_some hx
        have hpm : p ∈ ps := List.mem_of_getElem? hp
        have hdr : ps.drop n = p :: ps.drop (n + 1) := by
          obtain ⟨hl, hv⟩ := List.getElem?_eq_some_iff.mp hp
          rw [← hv]
          exact List.drop_eq_getElem_cons hl
        rw [hdr] at b4
        obtain ⟨vs, c1, c2⟩ := b4 p List.mem_cons_self
        have hl2 : j < σ'.length := by
          have := b1.len
          rw [List.length_set, List.length_set] at this
          omega
        have b1' := b1.drop (i := j) (o := some (V.ref p))
        rw [List.set_set] at b1'
        obtain ⟨d1, d2⟩ := b1'.wr (us := vs ++ [V.non]) (mem p (List.mem_cons_of_mem _ hpm)) hun c1
        refine ⟨_, List.getElem?_set_self hl2, .inl ⟨rfl, vs, SqL.of c1⟩, p, vs, .non, rfl, rfl, c1, c2, d1, b2.trans' d2 (fun _ z => z), upd_keep (fun z => ?_) b3, fun p' hp' => ?_⟩
        · rw [z] at q2
          exact (List.nodup_cons.mp q2).1 hpm
        · obtain ⟨vs', e1, e2⟩ := b4 p' (List.mem_cons_of_mem _ hp')
          refine ⟨vs', upd_keep (fun z => ?_) e1, e2⟩
          subst z
          have := (List.drop_sublist n ps).nodup nd
          rw [hdr] at this
          exact (List.nodup_cons.mp this).1 hp'
      · exact ho _ Hc F A b1 b2 fun _ z => z
    · cases hr
  · cases hr
end
end Os
end
section
set_option linter.all false
set_option maxRecDepth 100000
set_option maxHeartbeats 4000000
/-! OsT: every statement of the small language; a def by its body. -/
namespace Os
open PySem PySem.Spec PyProof.Rows L2

section
variable {X : Cx} {Φ : List FE} {gk : List (Str × D)} {k : Nat} {N : List Str} {sc : Scope}
theorem s_setL (C : XS X Φ gk k) (hN : X.N = N) (hs : X.env.scope = sc) {i : Nat} {x : Str} {elt : Expr} {gs : List Comprehension} {scope : Scope} {m : ME} {p cpos pos : Pos} (md : Mode) (h1 : N[i]? = some x) (h2 : sc.names.lookup x = some .local) (h3 : TrE Φ gk N sc (.ListComp elt gs scope cpos) m)
    (h4 : (p.line == cpos.line) = true) (h5 : (scope.names.any fun (n, k) => n == x && (k == .local || k == .cell)) = false) (h6 : md ≠ .q) : PS X (.Assign [.Name x p] (.ListComp elt gs scope cpos) pos) (tS X.w Φ (.set i md m)) := by
  cases h3 with
  | comp hb ht hsl hi hf he hse =>
    have hi' := sndI hi X C.c hN hs _ rfl
    subst hN hs
    refine ⟨fun pins s σ H D I h => ?_⟩
    have pg : ∀ (s : Shared) (H : Hp) (L : Addr) (cl : List (Str × Addr)) (fp : List Addr), PG (X.blk s H scope (compEnvC scope cl L X.env) fp) _ (gM X.K _) := fun s H L cl fp =>
      pg_ok (X := X.blk s H scope (compEnvC scope cl L X.env) fp) C.c.calm C.c.nd ht
    have pel : ∀ (s : Shared) (H : Hp) (L : Addr) (cl : List (Str × Addr)) (fp : List Addr), PE (X.blk s H scope (compEnvC scope cl L X.env) fp) elt (tE X.w Φ _) := fun s H L cl fp => (snd he (X.blk s H scope (compEnvC scope cl L X.env) fp) C.c.blk rfl rfl).pe
    have ptl : ∀ (s : Shared) (H : Hp) (L : Addr) (cl : List (Str × Addr)) (fp : List Addr), PTs (X.blk s H scope (compEnvC scope cl L X.env) fp) _ (tFs X.w Φ _) := fun s H L cl fp => sndF hf (X.blk s H scope (compEnvC scope cl L X.env) fp) C.c.blk rfl rfl
    refine (ps_setLc C.c.calm C.c.nd h1 h2 (sw_true I.ok.kind h2 h4 h5) hi' (blkOk_by hb) pg ptl pel (hse _)).run pins s σ H D I ?_
    exact lc_of ht hsl (tM_of h6 (a_set h))
end

mutual
theorem sndS {Φ : List FE} {gk : List (Str × D)} {k : Nat} {N : List Str} {sc : Scope} {st : Stmt} {m : MS} : TrS Φ gk N sc st m → ∀ X : Cx, XS X Φ gk k → X.N = N → X.env.scope = sc → PS X st (tS X.w Φ m)
  | .set md h1 h2 h3 h4, X, C, hN, hs => ps_weak (ps_set C.c.nd (by rw [hN]; exact h1) (by rw [hs]; exact h2) (sndM md h3 C.c hN hs) (h4 _) (.inl (C.fn _))) fun D σ H q => a_set q
  | .setL md h1 h2 h3 h4 h5 h6, X, C, hN, hs => s_setL C hN hs md h1 h2 h3 h4 h5 h6
  | .setC md h1 h2 h3, X, C, hN, hs => ps_weak (ps_set C.c.nd (by rw [hN]; exact h1) (by rw [hs]; exact .inr h2) (sndM md h3 C.c hN hs) (sw_cell (by rw [hs]; exact h2)) (.inl (C.fn _))) fun D σ H q => a_set q
  | .par2 m1 m2 h1 h2 h3 h4 h5 h6 h7 ha hb h8 h9, X, C, hN, hs => ⟨fun pins s σ H D I q =>
      (ps_par C.c.calm C.c.nd (by rw [hN]; exact h1) (by rw [hN]; exact h2) h3 (by rw [hs]; exact h5) (by rw [hs]; exact h6) (pa_cons (sndM m1 ha C.c hN hs) (pa_cons (sndM m2 hb C.c hN hs) pa_nil (hb.ns _ _)) (ha.ns _ _))
        (sw2_yes I.ok.kind (by rw [hs]; exact h5) (by rw [hs]; exact h6) h7 h4 ha.nst hb.nst h8 h9)).run pins s σ H D I (a_parS q)⟩
  | .par2O m1 m2 h1 h2 h3 h4 h5 ha hb, X, C, hN, hs => ps_weak (ps_asg (pe_tupF (pa_cons (sndM m1 ha C.c hN hs) (pa_cons (sndM m2 hb C.c hN hs) pa_nil (hb.ns _ _)) (ha.ns _ _)))
      (pg_tup (n := 2) C.c.calm (pgs_cons (pg_name C.c.nd (by rw [hN]; exact h1) (by rw [hs]; exact h3) (.inl (C.fn _))) (pgs_cons (pg_name C.c.nd (by rw [hN]; exact h2) (by rw [hs]; exact h4) (.inl (C.fn _))) pgs_nil))) rfl (sw2_no (by rw [hs]; exact h5))) fun D σ H q => a_parO q
  | .unp md ht h h1 h2, X, C, hN, hs => ps_weak (ps_asg (sndM md h C.c hN hs) (pg_ok C.c.calm C.c.nd (by rw [hN, hs]; exact ht.up C.fn)) (h1 _) (h2 _) (by rw [ht.ns]; rfl)) fun D σ H q => a_unp q
  | .app md h1 h2 h3 h4 h h5, X, C, hN, hs => ps_weak (ps_expr (pe_bm F.plainAttrs_list F.slot_list_append F.type_list_append mt_append (pe_var (by rw [hN]; exact h1) (by rw [hs]; exact h2) h3 h4) (pa_cons (sndM md h C.c hN hs) pa_nil (h.ns _ _)) rfl (by rw [h.ns]; rfl) h5 (h.ns _ _)) rfl) fun D σ H q => a_app q
  | .ret h, X, C, hN, hs => ps_weak (ps_ret (snd h X C.c hN hs).pe) fun D σ H q => a_ret q
  | .retO h1 h2 h3 h4, X, C, hN, hs => ps_weak (ps_ret (pe_var (by rw [hN]; exact h1) (by rw [hs]; exact h2) h3 h4)) fun D σ H q => a_retO q
  | .ite h a b, X, C, hN, hs => ps_weak (ps_if (snd h X C.c hN hs).pt (sndSs a X C hN hs) (sndSs b X C hN hs)) fun D σ H q => a_ite q
  | .for_ ht hi b h, X, C, hN, hs => ps_weak (ps_for C.po C.c.calm (sndI hi X C.c hN hs _ rfl) (pg_ok C.c.calm C.c.nd (by rw [hN, hs]; exact ht.up C.fn)) (sndSs b X C hN hs) (h _)) fun D σ H q => a_for (fun hp i z => by
      subst z
      cases ht
      cases hp) q
  | .brk, X, C, hN, hs => ps_weak ps_break fun D σ H q => a_brk q
  | .cnt, X, C, hN, hs => ps_weak ps_continue fun D σ H q => a_cnt q
  | .pass, X, C, hN, hs => ps_weak ps_pass fun D σ H q => a_pass q
  | .doc, X, C, hN, hs => ps_weak ps_doc fun D σ H q => a_pass q
  | .bad, X, C, hN, hs => ps_weak ps_never fun D σ H ⟨g, G0, H0, F, A, ρ, s, r, E, hr, ho⟩ => by cases hr
  | .drop h h1, X, C, hN, hs => ps_weak (ps_expr (snd h X C.c hN hs).pe (h1 _)) fun D σ H q => a_drop q
  | .spoil h1 h2 h3 h4 h5 h6 h7 h8 h9, X, C, hN, hs => ps_weak (ps_for C.po C.c.calm (pi_list (pe_var (by rw [hN]; exact h1) (by rw [hs]; exact h3) h5 h6)) (pg_name C.c.nd (by rw [hN]; exact h2) (by rw [hs]; exact h4) (.inl (C.fn _)))
      (pss_one (ps_expr (pe_bm F.plainAttrs_list F.slot_list_append F.type_list_append mt_append (pe_var (by rw [hN]; exact h2) (by rw [hs]; exact h4.elim .inl fun z => .inr (.inl z)) h7 h8) (pa_cons pe_non pa_nil) rfl rfl h9)))) fun D σ H q => a_spoil q
theorem sndSs {Φ : List FE} {gk : List (Str × D)} {k : Nat} {N : List Str} {sc : Scope} {sts : List Stmt} {ms : MSs} : TrSs Φ gk N sc sts ms → ∀ X : Cx, XS X Φ gk k → X.N = N → X.env.scope = sc → PSs X sts (tSs X.w Φ ms)
  | .nil, X, C, hN, hs => pss_weak pss_nil fun D σ H q => a_nil q
  | .cons h r, X, C, hN, hs => pss_weak (pss_cons (sndS h X C hN hs) (sndSs r X C hN hs)) fun D σ H q => a_cons q
  | .frz i r, X, C, hN, hs => pss_weak (sndSs r X C hN hs) fun D σ H q => a_frz q
end
end Os
end
section
set_option linter.all false
set_option maxRecDepth 100000
set_option maxHeartbeats 4000000
/-! OsU: a def by its body; the law's call. -/
namespace Os
open PySem PySem.Spec PyProof.Rows L2

theorem RoomG.deeper {k : Nat} {A : Around} (r : RoomG (k + 1) A) (env : Env) : RoomG k (A.deeper env) := ⟨r.r.deeper env, r.gd⟩
theorem RoomG.mono {j k : Nat} {A : Around} (r : RoomG k A) (h : j ≤ k) : RoomG j A := ⟨r.r.mono h, r.gd⟩

section
variable {P : Program} {w : World} {K : PySem.W.Frag} {mg : Str → Option Value} {base : Heap} {k : Nat} {f : Addr} {x qual : Str} {st : Stmt} {fd : FuncData} {N ps : List Str} {sp : Sp}
/-- a def by a reading of its body -/
theorem fnG_body (Fd : Fun K x qual st f fd) (S : FnScope N ps (defScope st)) (hlen : ∀ vs H Q E, sp vs H Q E → vs.length = ps.length)
    (hb : ∀ (cdv : Value) (A : Around) (outer : List Env) (s : Shared) (H : Hp) (vs : List V) (Q : VK) (E : XK), RoomG k (A.deeper (envOfC qual (defScope st) s.heap.objs.size f cdv)) → sp vs H Q E →
      ∃ t, PSs (cxOf CX0 P w K mg base N qual (defScope st) f cdv A outer s H E) (defBody st) t ∧ t { nx := fun _ H' => Q .non H', rt := Q } (L2.start N vs) H) : FnG P w K mg base (k + 1) f fd ps sp := by
  obtain ⟨oc, od, kV, doc, pm, an, cdv, ct, osl, rfl, lk, hcd⟩ := Fd.ex
  constructor
  · exact hlen
  intro A outer s H as us vs Q E room env0 hbind hvals hsp
  have hn := hlen vs H Q E hsp
  have kin : K.In s.heap := env0.mod.kin.keeps fun b o e => (env0.bs b o e).1
  have nolim : s.heap.NoLimit := env0.mod.nolimit.keeps fun b o e => (env0.bs b o e).1
  have kinds : ∀ y ∈ ps.zip us, (defScope st).names.lookup y.1 = some .local ∨ ((defScope st).names.lookup y.1 = some .cell ∧ ((cellsFrom (s.heap.objs.size + 1) (defScope st).names []).lookup y.1).isSome = true) := by
    intro y hy
    obtain ⟨n, v⟩ := y
    cases S.par n (List.of_mem_zip hy).1 with
    | inl q => left; exact q
    | inr q => right; exact And.intro q (PySem.W.cellsFrom_some _ _ _ (Or.inl q))
  apply codeAny_call_function room.r.depth (kin _ _ lk) rfl S.co S.gen rfl (PySem.W.codeRec_of kin hcd)
  apply hbind
  apply wpAny_newFunctionEnv_cells S.kind kinds
  intro env he s1 enter
  subst he
  constructor
  · exact nolim.keeps enter.toInCall.keep
  apply codeAny_func
  obtain ⟨t, ht, hq⟩ := hb cdv A outer s H vs Q E (room.deeper _) hsp
  have I0 : Inv (cxOf CX0 P w K mg base N qual (defScope st) f cdv A outer s H E) [] (L2.start N vs) H s1 := inv_start S room.r.hd env0 hn hvals enter
  apply wpAny_mono (ht.run [] s1 (L2.start N vs) H _ I0 hq)
  · intro flow s' hflow
    have back : ∀ {σ' : L2.St} {H' : Hp} {v : V} {u : Value}, Inv (cxOf CX0 P w K mg base N qual (defScope st) f cdv A outer s H E) [] σ' H' s' → RelV v u → Q v H' → CE outer P w H s Q u s' := by
      intro σ' H' v u J hr hQ
      exact Exists.intro v (Exists.intro H' (And.intro J.os (And.intro J.bare (And.intro J.base (And.intro J.hok (And.intro hr hQ))))))
    cases flow with
    | ret u => obtain ⟨v, σ', H', J, hr, hQ⟩ := hflow; exact back J hr hQ
    | next => obtain ⟨σ', H', J, hQ⟩ := hflow; exact back (v := V.non) (u := Value.none) J rfl hQ
    | brk => obtain ⟨_, _, _, z⟩ := hflow; exact z.elim
    | cont => obtain ⟨_, _, _, z⟩ := hflow; exact z.elim
  · intro e s' z
    exact z
end

/-- what the module gives the defs -/
structure MF (P : Program) (w : World) (K : PySem.W.Frag) (mg : Str → Option Value) (base : Heap) (Φ : List FE) (gk : List (Str × D)) (k : Nat) : Prop where
  bl : ∀ x ∈ bNames, mg x = none
  fns : ∀ F ∈ Φ, ∃ f fd ps, mg F.name = some (.ref f) ∧ PySem.W.keepIn K (.ref f) = true ∧ Binds K fd ps [] ∧ ps.length = F.ar ∧ FnG P w K mg base k f fd ps (spF w F)
  gks : ∀ p ∈ gk, ∃ u v, mg p.1 = some u ∧ RelV v u ∧ leafV v p.2
theorem MF.up {P : Program} {w : World} {K : PySem.W.Frag} {mg : Str → Option Value} {base : Heap} {Φ : List FE} {gk : List (Str × D)} {j k : Nat} (M : MF P w K mg base Φ gk j) (h : j ≤ k) : MF P w K mg base Φ gk k :=
  ⟨M.bl, fun F hF => let ⟨f, fd, ps, h1, h2, h3, h4, h5⟩ := M.fns F hF; ⟨f, fd, ps, h1, h2, h3, h4, h5.up h⟩, M.gks⟩
theorem MF.push {P : Program} {w : World} {K : PySem.W.Frag} {mg : Str → Option Value} {base : Heap} {Φ : List FE} {gk : List (Str × D)} {j k : Nat} (M : MF P w K mg base Φ gk j) (h : j ≤ k) {F : FE} {f : Addr} {fd : FuncData} {ps : List Str} (h1 : mg F.name = some (.ref f)) (h2 : PySem.W.keepIn K (.ref f) = true) (h3 : Binds K fd ps []) (h4 : ps.length = F.ar)
    (h5 : FnG P w K mg base k f fd ps (spF w F)) : MF P w K mg base (Φ ++ [F]) gk k :=
  ⟨M.bl, fun G hG => (List.mem_append.mp hG).elim (fun z => (M.up h).fns G z) fun z => by
    rw [List.mem_singleton.mp z]
    exact ⟨f, fd, ps, h1, h2, h3, h4, h5⟩, M.gks⟩

theorem AR.get {w : World} {g : Option (Addr × Addr)} {G : Addr → Prop} {H : Hp} : ∀ {vs : List V} {as : List SL} {i : Nat} {x : SL}, AR w g G H vs as → as[i]? = some x → ∃ v, vs[i]? = some v ∧ ((∃ d, x = .d d ∧ Dat w G H v d) ∨ (x = .src ∧ ∃ a c, v = .ref a ∧ g = some (a, c)))
  | _, _, _, _, .nil, e => nomatch e
  | _, _, 0, _, .cons r _, e => by
    cases e
    exact ⟨_, rfl, .inl ⟨_, rfl, r⟩⟩
  | _, _, 0, _, .src r _, e => by
    cases e
    exact ⟨_, rfl, .inr ⟨rfl, _, _, rfl, r⟩⟩
  | _, _, i + 1, x, .cons _ t, e => by
    obtain ⟨v, h1, h2⟩ := AR.get (i := i) (x := x) t (by simpa using e)
    exact ⟨v, by simpa using h1, h2⟩
  | _, _, i + 1, x, .src _ t, e => by
    obtain ⟨v, h1, h2⟩ := AR.get (i := i) (x := x) t (by simpa using e)
    exact ⟨v, by simpa using h1, h2⟩
/-- the state at a def's entry -/
theorem SR.entry {w : World} {g : Option (Addr × Addr)} {G : Addr → Prop} {H : Hp} {vs : List V} {as : List SL} {s : S1} {N : List Str} (gok : ∀ b, G b → ¬ Own2 g b) (r : SrcR g H s) (h : AR w g G H vs as) (hl : as.length ≤ N.length) :
    SR w g G H (fun b => G b ∧ H b ≠ none) (fun _ => []) (L2.start N vs) H (as.map argS ++ List.replicate (N.length - as.length) .un) s := by
  have e0 := h.length
  refine ⟨⟨s, r⟩, fun b z => .inl z.1, fun b z => gok b z.1, Keep.refl, r, ?_, fun i x e => ?_, fun i b hb => (nomatch hb), fun i j b hb => (nomatch hb), fun i b hb => (nomatch hb), fun b z => z.2⟩
  · unfold L2.start
    simp only [List.length_append, List.length_map, List.length_replicate]
    omega
  · by_cases hi : i < as.length
    · rw [List.getElem?_append_left (by simpa using hi), List.getElem?_map] at e
      obtain ⟨y, e1, e2⟩ := map_some e
      obtain ⟨v, h1, h2⟩ := h.get e1
      have hs : (L2.start N vs)[i]? = some (some v) := by
        unfold L2.start
        rw [List.getElem?_append_left (by rw [List.length_map]; omega), List.getElem?_map, h1]
        rfl
      rw [hs]
      rcases h2 with ⟨d, rfl, h3⟩ | ⟨rfl, a, c, rfl, hg⟩
      · subst e2
        exact ⟨v, rfl, h3.live⟩
      · subst e2
        exact ⟨a, c, hg, rfl⟩
    · rw [List.getElem?_append_right (by simpa using hi), List.getElem?_replicate] at e
      split at e
      · cases e
        exact trivial
      · cases e
/-- a def of the small language -/
theorem fn_rule {P : Program} {w : World} {K : PySem.W.Frag} {mg : Str → Option Value} {base : Heap} {k : Nat} {f : Addr} {x qual : Str} {st : Stmt} {fd : FuncData} {N ps : List Str} {Φ : List FE} {gk : List (Str × D)} {ms : MSs} {F : FE}
    (M : MF P w K mg base Φ gk k) (Fd : Fun K x qual st f fd) (S : FnScope N ps (defScope st)) (tr : TrSs Φ gk N (defScope st) (defBody st) ms) (har : ps.length = F.ar) (hsem : F.sem = semOf Φ F.fresh N.length ms) (hfr : F.fresh = true → newMs Φ ms = true) : FnG P w K mg base (k + 1) f fd ps (spF w F) := by
  have hpl : ps.length ≤ N.length := by
    have := congrArg List.length S.pre
    rw [List.length_take] at this
    omega
  refine fnG_body Fd S (fun vs H Q E ⟨g, G, as, s, d, s', gok, r, ha, hl, hs, q⟩ => by rw [ha.length, hl, har]) fun cdv A outer s0 H vs Q E room ⟨g, G, as, s, d, s', gok, r, ha, hl, hs, q⟩ => ?_
  have C : XC (cxOf CX0 P w K mg base N qual (defScope st) f cdv A outer s0 H E) Φ gk k := ⟨rfl, room, S.nd, M.bl, M.fns, M.gks⟩
  have XSo : XS (cxOf CX0 P w K mg base N qual (defScope st) f cdv A outer s0 H E) Φ gk k := ⟨C, fun _ => rfl, passes_of rfl⟩
  refine ⟨tSs w Φ ms, sndSs tr _ XSo rfl rfl, ?_⟩
  rw [hsem] at hs
  unfold semOf at hs
  obtain ⟨res, h1, h2⟩ := bind_some hs
  refine ⟨g, G, H, _, _, _, s, res, SR.entry (N := N) gok r ha (by omega), h1, ?_⟩
  cases res with
  | rt d2 s2 =>
    cases h2
    exact fun v H1 p n => q v H1 p fun z => n (hfr z)
  | nx ρ s2 =>
    dsimp only at h2
    split at h2
    · cases h2
    · rename_i hf
      cases h2
      exact fun σ H1 F1 A1 E1 kg ff => q .non H1 ⟨E1.keep, E1.src, .none⟩ fun z => absurd z hf
  | bk ρ s2 => cases h2
  | ct ρ s2 => cases h2
end Os
end
section
set_option linter.all false
set_option maxRecDepth 100000
set_option maxHeartbeats 4000000
/-! OsV: the laws' source: what it is as a dict; drawing from it. -/
namespace Os
open PySem PySem.Spec PyProof.Rows L2

/-! ### drawing, as data -/
def drain (left : Int) : List Int → List Int × Int
  | [] => ([], left)
  | x :: r => if left < 2 then drain x r else (x :: r, left)
def pickS (m : Int) (S : Src) : Int × Src :=
  if m < 2 then (0, S) else
    let q := drain S.left S.cells.reverse
    if q.2 > 1 then (q.2 % m, ⟨q.1.reverse, q.2 / m, S.mixed, S.turn⟩)
    else
      let t := S.turn + 1
      let a := (S.mixed + t * 104729) % 998244353
      let b := (a * a + t * 17) % 2147483647
      ((b / 16) % m, ⟨q.1.reverse, q.2, S.mixed, t⟩)
def pickF : FE := ⟨"_law_pick", 2, fun as s => match as, s with
  | [.src, .d (.int n)], some S => if n < 1073741824 then some (.int (pickS n S).1, some (pickS n S).2) else none
  | _, _ => none, false⟩

/-! ### the dict -/
def kvS (c : Addr) (S : Src) : List (Key × V) := [(.inr "cells", .ref c), (.inr "left", .int S.left), (.inr "mixed", .int S.mixed), (.inr "turn", .int S.turn)]
theorem kCL : ¬ ((.inr "cells" : Key) = .inr "left") := by decide +kernel
theorem kCM : ¬ ((.inr "cells" : Key) = .inr "mixed") := by decide +kernel
theorem kCT : ¬ ((.inr "cells" : Key) = .inr "turn") := by decide +kernel
theorem kLM : ¬ ((.inr "left" : Key) = .inr "mixed") := by decide +kernel
theorem kLT : ¬ ((.inr "left" : Key) = .inr "turn") := by decide +kernel
theorem kML : ¬ ((.inr "mixed" : Key) = .inr "left") := by decide +kernel
theorem kMT : ¬ ((.inr "mixed" : Key) = .inr "turn") := by decide +kernel
theorem kTL : ¬ ((.inr "turn" : Key) = .inr "left") := by decide +kernel
theorem kv_cells (c : Addr) (S : Src) : valV (kvS c S) (.inr "cells") = some (.ref c) := valV_pos rfl
theorem kv_left (c : Addr) (S : Src) : valV (kvS c S) (.inr "left") = some (.int S.left) := (valV_neg kCL).trans (valV_pos rfl)
theorem kv_mixed (c : Addr) (S : Src) : valV (kvS c S) (.inr "mixed") = some (.int S.mixed) := (valV_neg kCM).trans ((valV_neg kLM).trans (valV_pos rfl))
theorem kv_turn (c : Addr) (S : Src) : valV (kvS c S) (.inr "turn") = some (.int S.turn) := (valV_neg kCT).trans ((valV_neg kLT).trans ((valV_neg kMT).trans (valV_pos rfl)))
theorem sCL : ¬ (("cells" : Str) = "left") := by decide +kernel
theorem sML : ¬ (("mixed" : Str) = "left") := by decide +kernel
theorem sTL : ¬ (("turn" : Str) = "left") := by decide +kernel
theorem sCT : ¬ (("cells" : Str) = "turn") := by decide +kernel
theorem sLT : ¬ (("left" : Str) = "turn") := by decide +kernel
theorem sMT : ¬ (("mixed" : Str) = "turn") := by decide +kernel
theorem put_left (c : Addr) (S : Src) (l : Int) : putK (kvS c S) (.inr "left") (.int l) = kvS c { S with left := l } := by
  unfold putK kvS
  simp [sCL, sML, sTL]
theorem put_turn (c : Addr) (S : Src) (l : Int) : putK (kvS c S) (.inr "turn") (.int l) = kvS c { S with turn := l } := by
  unfold putK kvS
  simp [sCT, sLT, sMT]

/-- the source at a, its cells at c, all else as it was or new -/
structure SH (H0 : Hp) (a c : Addr) (S : Src) (H : Hp) : Prop where
  keep : ∀ b o, b ≠ a → b ≠ c → H0 b = some o → H b = some o
  sa : H a = some (.dK (kvS c S))
  sc : H c = some (.lst (S.cells.map V.int))
theorem SH.ne {H0 H : Hp} {a c : Addr} {S : Src} (h : SH H0 a c S H) : a ≠ c := fun z => by
  have h1 := h.sa
  have h2 := h.sc
  rw [z, h2] at h1
  cases h1
theorem SH.left {H0 H : Hp} {a c : Addr} {S : Src} (h : SH H0 a c S H) (l : Int) : SH H0 a c { S with left := l } (upd H a (.dK (putK (kvS c S) (.inr "left") (.int l)))) :=
  ⟨fun b o n1 n2 e => by rw [upd_ne n1]; exact h.keep b o n1 n2 e, by rw [upd_same, put_left], by rw [upd_ne h.ne.symm]; exact h.sc⟩
theorem SH.turn {H0 H : Hp} {a c : Addr} {S : Src} (h : SH H0 a c S H) (l : Int) : SH H0 a c { S with turn := l } (upd H a (.dK (putK (kvS c S) (.inr "turn") (.int l)))) :=
  ⟨fun b o n1 n2 e => by rw [upd_ne n1]; exact h.keep b o n1 n2 e, by rw [upd_same, put_turn], by rw [upd_ne h.ne.symm]; exact h.sc⟩
theorem SH.cells {H0 H : Hp} {a c : Addr} {S : Src} (h : SH H0 a c S H) (xs : List Int) : SH H0 a c { S with cells := xs } (upd H c (.lst (xs.map V.int))) :=
  ⟨fun b o n1 n2 e => by rw [upd_ne n2]; exact h.keep b o n1 n2 e, by rw [upd_ne h.ne]; exact h.sa, upd_same⟩
theorem SH.same {H0 H H1 : Hp} {a c : Addr} {S : Src} (h : SH H0 a c S H) (k : Same H H1) : SH H0 a c S H1 :=
  ⟨fun b o n1 n2 e => k _ _ (h.keep b o n1 n2 e), k _ _ h.sa, k _ _ h.sc⟩
theorem SH.of {H : Hp} {a c : Addr} {S : Src} (r : SrcR (some (a, c)) H (some S)) : SH H a c S H := ⟨fun _ _ _ _ e => e, r.1, r.2⟩
theorem SH.fin {H0 H : Hp} {a c : Addr} {S : Src} (h : SH H0 a c S H) : Keep (some (a, c)) H0 H ∧ SrcR (some (a, c)) H (some S) :=
  ⟨fun b o e n => h.keep b o (fun z => n (.inl z)) (fun z => n (.inr z)) e, h.sa, h.sc⟩
theorem SH.get {H0 H : Hp} {a c : Addr} {S : Src} (h : SH H0 a c S H) {k : Key} {v : V} (e : valV (kvS c S) k = some v) : DGet H a (kV k) (some v) := by
  rw [← e]
  exact DGet.k h.sa

/-! ### _law_pick -/
abbrev srcE (p1 p2 p3 : Pos) (k : Nat) (x : Str) : Expr := .Subscript (.Name "_law_source" p1) (.Constant (.str x) k p2) p3
def pickN : List Str := ["_law_source", "_law_most", "_law_cells", "_law_others", "_law_lap", "_law_stirred"]
theorem PE.fld {X : Cx} {p1 p2 p3 : Pos} {k : Nat} {x : Str} (hu : X.A.units + 1 < cLine) (hN : X.N[0]? = some ("_law_source" : Str)) (hv : Vis X.env.scope "_law_source") : PE X (srcE p1 p2 p3 k x) (tDGet (tVar 0) (tC (.str x))) :=
  pe_dget hu (pe_var hN hv (by decide +kernel) (by decide +kernel)) pe_str fun _ _ => rfl
section
variable {H0 H : Hp} {a c : Addr} {S : Src} {σ : L2.St} {Q : VK} {v : V}
theorem SH.rd (h : SH H0 a c S H) (h0 : σ[0]? = some (some (.ref a))) {x : Str} (e : valV (kvS c S) (.inr x) = some v) (q : Q v H) : tDGet (tVar 0) (tC (.str x)) σ H Q := ⟨_, h0, a, v, rfl, h.get e, q⟩
theorem intQ {w : World} {f : B1} {i j : Int} (h : dB1 f (.int i) = some (.int j)) (q : ∀ H', Same H H' → Q (.int j) H') : rB1N w f [.int i] H Q :=
  ⟨_, rfl, fun _ => False, _, _, .int i, h, fun v H' k d _ => by
    obtain rfl := d.intE
    exact q H' k⟩
end
theorem revcons {x : Int} {r : List Int} : ((x :: r).reverse.map V.int)[((x :: r).reverse.map V.int).length - 1]? = some (.int x) := by
  simp [List.getElem?_append_right]
theorem revlast {x : Int} {r : List Int} : ((x :: r).reverse.map V.int).dropLast = r.reverse.map V.int := by
  rw [List.reverse_cons, List.map_append]
  simp
end Os
end
section
set_option linter.all false
set_option maxRecDepth 100000
set_option maxHeartbeats 4000000
/-! OsW: _law_pick does what pickS tells. -/
namespace Os
open PySem PySem.Spec PyProof.Rows L2

def tLenL (K : PySem.W.Frag) : List V → Hp → VK → Prop := fun xs H Q => ∃ p ys, xs = [.ref p] ∧ (SqL K H p ys ∨ SqT K H p ys) ∧ Q (.int ys.length) H
def tInt1 (w : World) (t : TE) : TE := tCB (rB1N w .int) (tCons t tNil)
def rAddI : R2 := rI0 fun i j => .int (i + j)
def rMulI : R2 := rI CMul fun i j => .int (i * j)
def rModI : R2 := rI (fun _ j => 0 < j) fun i j => .int (i % j)
def rDivI : R2 := rI CDiv fun i j => .int (i / j)
def tG (x : Str) : TE := tDGet (tVar 0) (tC (.str x))
def pk9 (w : World) : TS := tRet (tOp rModI (tInt1 w (tOp rDivI (tVar 5) (tC (.int 16)))) (tVar 1))
def pk8 (w : World) : TS := tSeq (tAsg (tOp rModI (tInt1 w (tOp rAddI (tOp rMulI (tVar 5) (tVar 5)) (tOp rMulI (tVar 4) (tC (.int 17))))) (tC (.int 2147483647))) (gName 5)) (pk9 w)
def pk7 (w : World) : TS := tSeq (tAsg (tOp rModI (tInt1 w (tOp rAddI (tG "mixed") (tOp rMulI (tVar 4) (tC (.int 104729))))) (tC (.int 998244353))) (gName 5)) (pk8 w)
def pk6 (w : World) : TS := tSeq (tAsg (tG "turn") (gName 4)) (pk7 w)
def pk5 (w : World) : TS := tSeq (sDPut (tVar 0) (tC (.str "turn")) (tOp rAddI (tG "turn") (tC (.int 1)))) (pk6 w)
def pk4 (w : World) : TS := tSeq (tIfS (tB (tGt (tVar 3) (tC (.int 1)))) (tSeq (sDPut (tVar 0) (tC (.str "left")) (tOp rDivI (tVar 3) (tVar 1))) (tRet (tOp rModI (tInt1 w (tVar 3)) (tVar 1)))) tNext) (pk5 w)
def pk3 (w : World) : TS := tSeq (tAsg (tG "left") (gName 3)) (pk4 w)
def pk2c (K : PySem.W.Frag) : TT := tAnd (tB (tLt (tG "left") (tC (.int 2)))) (tB (tGt (tCB (tLenL K) (tCons (tVar 2) tNil)) (tC (.int 0))))
def pk2b (K : PySem.W.Frag) : TS := sDPut (tVar 0) (tC (.str "left")) (tBM0 K "list" rPop (tVar 2))
def pk2 (w : World) (K : PySem.W.Frag) : TS := tSeq (tWhile (pk2c K) (pk2b K)) (pk3 w)
def pk1 (w : World) (K : PySem.W.Frag) : TS := tSeq (tAsg (tG "cells") (gName 2)) (pk2 w K)
def pk0 (w : World) (K : PySem.W.Frag) : TS := tSeq (tIfS (tB (tLt (tVar 1) (tC (.int 2)))) (tRet (tC (.int 0))) tNext) (pk1 w K)

theorem decT {p : Prop} {i : Decidable p} {A B : Prop} (h : p) (q : A) : if decide p = true then A else B := by
  rw [if_pos (decide_eq_true h)]
  exact q
theorem decF {p : Prop} {i : Decidable p} {A B : Prop} (h : ¬ p) (q : B) : if decide p = true then A else B := by
  rw [if_neg (fun z => h (of_decide_eq_true z))]
  exact q
section
variable {w : World} {K : PySem.W.Frag} {H0 H : Hp} {a c : Addr} {S : Src} {m : Int} {D : Ends}
theorem pk5_run {o2 o4 o5 : Option V} {l : Int} (h : SH H0 a c S H) (hm : 2 ≤ m) (hm2 : m < 1073741824) (q : ∀ H', SH H0 a c { S with turn := S.turn + 1 } H' → D.rt (.int (((((S.mixed + (S.turn + 1) * 104729) % 998244353) * ((S.mixed + (S.turn + 1) * 104729) % 998244353) + (S.turn + 1) * 17) % 2147483647 / 16) % m)) H') :
    pk5 w D [some (.ref a), some (.int m), o2, some (.int l), o4, o5] H := by
  refine h.rd rfl (kv_turn c S) ⟨S.turn, 1, rfl, rfl, ?_⟩
  refine ⟨_, rfl, a, _, rfl, DPut.k (k := .inr "turn") (v := .int (S.turn + 1)) h.sa (by show 4 < sizeLine; decide), ?_⟩
  have h1 := h.turn (S.turn + 1)
  refine h1.rd rfl (kv_turn c _) ?_
  show pk7 w D [some (.ref a), some (.int m), o2, some (.int l), some (.int (S.turn + 1)), o5] _
  refine h1.rd rfl (kv_mixed c _) ⟨_, rfl, S.turn + 1, 104729, rfl, rfl, .inr (by decide), ?_⟩
  refine ⟨_, _, rfl, rfl, intQ rfl fun H2 k2 => ?_⟩
  have h2 := h1.same k2
  refine ⟨_, 998244353, rfl, rfl, show (0 : Int) < 998244353 by decide, ?_⟩
  show pk8 w D [some (.ref a), some (.int m), o2, some (.int l), some (.int (S.turn + 1)), some (.int ((S.mixed + (S.turn + 1) * 104729) % 998244353))] H2
  have b1 := Int.emod_nonneg (S.mixed + (S.turn + 1) * 104729) (show (998244353 : Int) ≠ 0 by decide)
  have b2 := Int.emod_lt_of_pos (S.mixed + (S.turn + 1) * 104729) (show (0 : Int) < 998244353 by decide)
  generalize (S.mixed + (S.turn + 1) * 104729) % 998244353 = y at b1 b2 q ⊢
  refine ⟨_, rfl, _, rfl, y, y, rfl, rfl, .inl ⟨by omega, by omega⟩, ?_⟩
  refine ⟨_, rfl, S.turn + 1, 17, rfl, rfl, .inr (by decide), _, _, rfl, rfl, intQ rfl fun H3 k3 => ?_⟩
  have h3 := h2.same k3
  refine ⟨_, 2147483647, rfl, rfl, show (0 : Int) < 2147483647 by decide, ?_⟩
  show pk9 w D [some (.ref a), some (.int m), o2, some (.int l), some (.int (S.turn + 1)), some (.int ((y * y + (S.turn + 1) * 17) % 2147483647))] H3
  refine ⟨_, rfl, _, 16, rfl, rfl, ⟨by decide, by decide⟩, intQ rfl fun H4 k4 => ?_⟩
  exact ⟨_, rfl, _, m, rfl, rfl, by omega, q H4 (h3.same k4)⟩
theorem pk3_run {o2 o3 o4 o5 : Option V} (h : SH H0 a c S H) (hm : 2 ≤ m) (hm2 : m < 1073741824)
    (q1 : S.left > 1 → ∀ H', SH H0 a c { S with left := S.left / m } H' → D.rt (.int (S.left % m)) H')
    (q2 : ¬ S.left > 1 → ∀ H', SH H0 a c { S with turn := S.turn + 1 } H' → D.rt (.int (((((S.mixed + (S.turn + 1) * 104729) % 998244353) * ((S.mixed + (S.turn + 1) * 104729) % 998244353) + (S.turn + 1) * 17) % 2147483647 / 16) % m)) H') :
    pk3 w D [some (.ref a), some (.int m), o2, o3, o4, o5] H := by
  refine h.rd rfl (kv_left c S) ?_
  show pk4 w D [some (.ref a), some (.int m), o2, some (.int S.left), o4, o5] H
  refine ⟨_, rfl, S.left, 1, rfl, rfl, _, rfl, ?_⟩
  by_cases hl : S.left > 1
  · refine decT hl ?_
    refine ⟨_, rfl, _, rfl, S.left, m, rfl, rfl, ⟨by omega, hm2⟩, ?_⟩
    refine ⟨_, rfl, a, _, rfl, DPut.k (k := .inr "left") (v := .int (S.left / m)) h.sa (by show 4 < sizeLine; decide), ?_⟩
    have h1 := h.left (S.left / m)
    refine ⟨_, rfl, intQ rfl fun H2 k2 => ?_⟩
    exact ⟨_, rfl, _, m, rfl, rfl, by omega, q1 hl H2 (h1.same k2)⟩
  · refine decF hl ?_
    exact pk5_run h hm hm2 (q2 hl)
theorem pk2_run {o3 o4 o5 : Option V} (h : SH H0 a c S H) (hm : 2 ≤ m) (hm2 : m < 1073741824) (q : ∀ H', SH H0 a c (pickS m S).2 H' → D.rt (.int (pickS m S).1) H') :
    pk2 w K D [some (.ref a), some (.int m), some (.ref c), o3, o4, o5] H := by
  have dr : ∀ (r : List Int) (l : Int), drain l r = drain l r := fun _ _ => rfl
  refine ⟨fun n σ H' => ∃ (r : List Int) (l : Int), n = r.length ∧ σ = [some (.ref a), some (.int m), some (.ref c), o3, o4, o5] ∧ SH H0 a c { S with cells := r.reverse, left := l } H' ∧ drain l r = drain S.left S.cells.reverse, ⟨_, S.cells.reverse, S.left, rfl, rfl, by simpa using h, rfl⟩, ?_⟩
  rintro n σ H' ⟨r, l, rfl, rfl, h1, e1⟩
  have fin : drain l r = (r, l) → pk3 w D [some (.ref a), some (.int m), some (.ref c), o3, o4, o5] H' := fun e => by
    rw [e] at e1
    have p : pickS m S = if l > 1 then (l % m, ⟨r.reverse, l / m, S.mixed, S.turn⟩) else (((((S.mixed + (S.turn + 1) * 104729) % 998244353) * ((S.mixed + (S.turn + 1) * 104729) % 998244353) + (S.turn + 1) * 17) % 2147483647 / 16) % m, ⟨r.reverse, l, S.mixed, S.turn + 1⟩) := by
      unfold pickS
      rw [if_neg (by omega), ← e1]
    refine pk3_run h1 hm hm2 (fun hl H2 h2 => ?_) fun hl H2 h2 => ?_
    · rw [p, if_pos hl] at q
      exact q H2 h2
    · rw [p, if_neg hl] at q
      exact q H2 h2
  refine h1.rd rfl (kv_left c _) ⟨l, 2, rfl, rfl, _, rfl, ?_⟩
  by_cases hl : l < 2
  · refine decT hl ?_
    refine ⟨_, rfl, c, _, rfl, .inl (SqL.of h1.sc), ?_⟩
    cases r with
    | nil =>
      refine ⟨0, 0, rfl, rfl, _, rfl, ?_⟩
      exact fin rfl
    | cons x r =>
      refine ⟨(((x :: r).reverse.map V.int).length : Nat), 0, rfl, rfl, _, rfl, ?_⟩
      refine decT (show (((((x :: r).reverse.map V.int).length : Nat) : Int) > 0) by simp) ?_
      refine ⟨fun σ' H2 => ∃ (r' : List Int) (l' : Int), r' = r ∧ σ' = [some (.ref a), some (.int m), some (.ref c), o3, o4, o5] ∧ SH H0 a c { S with cells := r'.reverse, left := l' } H2 ∧ drain l' r' = drain S.left S.cells.reverse, fun σ' H2 ⟨r', l', z1, z2, z3, z4⟩ => ⟨r.length, by simp, r', l', by rw [z1], z2, z3, z4⟩, ?_⟩
      refine ⟨_, rfl, .inl ⟨rfl, _, SqL.of h1.sc⟩, c, _, .int x, rfl, rfl, h1.sc, revcons, ?_⟩
      rw [revlast]
      have h2 := h1.cells r.reverse
      refine ⟨_, rfl, a, _, rfl, DPut.k (k := .inr "left") (v := .int x) h2.sa (by show 4 < sizeLine; decide), r, x, rfl, rfl, h2.left x, ?_⟩
      rw [← e1, drain, if_pos hl]
  · refine decF hl ?_
    refine fin ?_
    cases r with
    | nil => rfl
    | cons x r => rw [drain, if_neg hl]
theorem pk0_run {o2 o3 o4 o5 : Option V} (h : SH H0 a c S H) (hm2 : m < 1073741824) (q : ∀ H', SH H0 a c (pickS m S).2 H' → D.rt (.int (pickS m S).1) H') :
    pk0 w K D [some (.ref a), some (.int m), o2, o3, o4, o5] H := by
  refine ⟨_, rfl, m, 2, rfl, rfl, _, rfl, ?_⟩
  by_cases hm : m < 2
  · refine decT hm ?_
    have p : pickS m S = (0, S) := if_pos hm
    rw [p] at q
    exact q H h
  · refine decF hm ?_
    refine h.rd rfl (kv_cells c S) ?_
    exact pk2_run h (by omega) hm2 q
end
end Os
end
section
set_option linter.all false
set_option maxRecDepth 100000
set_option maxHeartbeats 4000000
/-! OsX: the laws' own defs that draw: rules for defs walked by hand; _law_any_order. -/
namespace Os
open PySem PySem.Spec PyProof.Rows L2

/-- a def walked by hand -/
theorem hand_rule {P : Program} {w : World} {K : PySem.W.Frag} {mg : Str → Option Value} {base : Heap} {k : Nat} {f : Addr} {x qual : Str} {st : Stmt} {fd : FuncData} {N ps : List Str} {Φ : List FE} {gk : List (Str × D)} {sp : Sp} (t : World → PySem.W.Frag → TS)
    (M : MF P w K mg base Φ gk k) (Fd : Fun K x qual st f fd) (S : FnScope N ps (defScope st)) (hlen : ∀ vs H Q E, sp vs H Q E → vs.length = ps.length) (hd : ∀ X : Cx, XS X Φ gk k → X.N = N → X.env.scope = defScope st → PSs X (defBody st) (t X.w X.K))
    (hr : ∀ vs H Q E, sp vs H Q E → t w K { nx := fun _ H' => Q .non H', rt := Q } (L2.start N vs) H) : FnG P w K mg base (k + 1) f fd ps sp := by
  refine fnG_body Fd S hlen fun cdv A outer s0 H vs Q E room hs => ?_
  have C : XC (cxOf CX0 P w K mg base N qual (defScope st) f cdv A outer s0 H E) Φ gk k := ⟨rfl, room, S.nd, M.bl, M.fns, M.gks⟩
  exact ⟨t w K, hd _ ⟨C, fun _ => rfl, passes_of rfl⟩ rfl rfl, hr vs H Q E hs⟩
theorem spF_len {w : World} {F : FE} {ps : List Str} (har : ps.length = F.ar) : ∀ vs H Q E, spF w F vs H Q E → vs.length = ps.length := fun vs H Q E ⟨g, G, as, s, d, s', gok, r, ha, hl, hs, q⟩ => by rw [ha.length, hl, har]

theorem pick_enter {w : World} {K : PySem.W.Frag} : ∀ vs H Q E, spF w pickF vs H Q E → pk0 w K { nx := fun _ H' => Q .non H', rt := Q } (L2.start pickN vs) H := by
  rintro vs H Q E ⟨g, G, as, s, d, s', gok, r, ha, hl, hs, q⟩
  unfold pickF at hs
  dsimp only at hs
  split at hs
  · rename_i n S
    split at hs
    · rename_i hn
      cases hs
      cases ha with
      | src hg ha =>
        cases ha with
        | cons hd ha =>
          cases ha
          obtain rfl := hd.intE
          subst hg
          exact pk0_run (SH.of r) hn fun H' h => q _ H' ⟨h.fin.1, h.fin.2, .int _⟩ fun z => nomatch z
    · cases hs
  · cases hs

theorem pickS_range {m : Int} {S : Src} (h : 1 ≤ m) : 0 ≤ (pickS m S).1 ∧ (pickS m S).1 < m := by
  simp only [pickS]
  split
  · exact ⟨Int.le_refl 0, by show (0 : Int) < m; omega⟩
  · split
    · exact ⟨Int.emod_nonneg _ (by omega), Int.emod_lt_of_pos _ (by omega)⟩
    · exact ⟨Int.emod_nonneg _ (by omega), Int.emod_lt_of_pos _ (by omega)⟩

/-! ### _law_any_order -/
def orderS : Nat → List D → Src → List D × Src
  | 0, _, S => ([], S)
  | n + 1, xs, S =>
    let q := pickS xs.length S
    let r := orderS n (xs.eraseIdx q.1.toNat) q.2
    (xs.getD q.1.toNat .none :: r.1, r.2)
def orderF : FE := ⟨"_law_any_order", 2, fun as s => match as, s with
  | [.src, .d x], some S => (seqOf x).bind fun xs => if xs.length ≤ sizeLine then some (.list (orderS xs.length xs S).1, some (orderS xs.length xs S).2) else none
  | _, _ => none, true⟩
def orderN : List Str := ["_law_source", "_law_things", "_law_others", "_law_lap"]
def odLen (K : PySem.W.Frag) : TE := tCB (tLenL K) (tCons (tVar 2) tNil)
def odElt (w : World) (K : PySem.W.Frag) : TE := tBM K "list" rPopAt (tVar 2) (tCons (fun σ H Q => tCons (tVar 0) (tCons (odLen K) tNil) σ H fun vs H1 => spF w pickF vs H1 Q E0) tNil)
def od0 (w : World) (K : PySem.W.Frag) : TS := tSeq (tAsg (tCB (rB1N w .list) (tCons (tVar 1) tNil)) (gName 2)) (tRet (tLc (iRng1 (tCons (odLen K) tNil)) (gName 3) tYes (odElt w K) [3]))

theorem Dats.erase {w : World} {G : Addr → Prop} {H : Hp} : ∀ {vs : List V} {ds : List D} (i : Nat), Dats w G H vs ds → Dats w G H (vs.eraseIdx i) (ds.eraseIdx i)
  | _, _, _, .nil => .nil
  | _, _, 0, .cons r t => t
  | _, _, i + 1, .cons r t => .cons r (Dats.erase i t)
theorem od_run {w : World} {K : PySem.W.Frag} {g : Option (Addr × Addr)} {G : Addr → Prop} {H1 : Hp} {a c p : Addr} {vs : List V} {ds : List D} {S : Src} {o1 o3 : Option V} {Q : VK} (hg : g = some (a, c)) (r1 : SrcR g H1 (some S)) (hp : H1 p = some (.lst vs)) (np : ¬ Own2 g p) (hd : Dats w G H1 vs ds) (gl : ∀ b, G b → b ≠ p ∧ H1 b ≠ none ∧ ¬ Own2 g b) (hz : ds.length ≤ sizeLine)
    (q : ∀ D H' us, H1 D = none → (∀ b o, H1 b = some o → ¬ Own2 g b → b ≠ p → H' b = some o) → SrcR g H' (some (orderS ds.length ds S).2) → H' D = some (.lst us) → Dats w G H' us (orderS ds.length ds S).1 → Q (.ref D) H') :
    tLc (iRng1 (tCons (odLen K) tNil)) (gName 3) tYes (odElt w K) [3] [some (.ref a), o1, some (.ref p), o3] H1 Q := by
  have hlen := hd.length
  refine ⟨_, rfl, p, vs, rfl, .inl (SqL.of hp), (vs.length : Nat), rfl, by omega, by
    have : sizeLine < 2 ^ 62 := by decide
    omega, fun Dn hDn => ?_⟩
  have nD : ¬ Own2 g Dn := fun z => r1.there z hDn
  have pD : p ≠ Dn := ne_of_none hp hDn
  have hto : ((vs.length : Nat) : Int).toNat = ds.length := by rw [hlen]; rfl
  rw [hto]
  refine lc_range (lo := 0) (n := ds.length) (fun i Hc => ∃ (us acc : List V) (es accd : List D) (S' : Src), Hc p = some (.lst us) ∧ Dats w G Hc us es ∧ SrcR g Hc (some S') ∧ (∀ b o, H1 b = some o → ¬ Own2 g b → b ≠ p → Hc b = some o) ∧ Hc Dn = some (.lst acc) ∧ Dats w G Hc acc accd ∧ es.length + i = ds.length ∧ accd.length = i ∧
      accd ++ (orderS es.length es S').1 = (orderS ds.length ds S).1 ∧ (orderS es.length es S').2 = (orderS ds.length ds S).2) ?_ (fun i Hc hi ⟨us, acc, es, accd, S', h1, h2, h3, h4, h5, h6, h7, h8, h9, h10⟩ => ?_) fun Hc ⟨us, acc, es, accd, S', h1, h2, h3, h4, h5, h6, h7, h8, h9, h10⟩ => ?_
  · exact ⟨vs, [], ds, [], S, upd_keep pD hp, hd.go (fun b o z e => ⟨upd_keep (ne_of_none e hDn) e, z⟩) (fun b o xs e => upd_keep (ne_of_none e hDn) e), r1.upd nD, fun b o e n1 n2 => upd_keep (ne_of_none e hDn) e, upd_same, .nil, by omega, rfl, rfl, rfl⟩
  · refine ⟨rfl, ?_⟩
    show tYes _ _ _
    have hes : ∃ m, es.length = m + 1 := ⟨es.length - 1, by omega⟩
    obtain ⟨m, hm⟩ := hes
    have hul := h2.length
    rw [hm, orderS] at h9 h10
    generalize hpk : pickS (es.length : Int) S' = pk at h9 h10
    have hrg := pickS_range (m := (es.length : Int)) (S := S') (by omega)
    rw [hpk] at hrg
    have hk : pk.1.toNat < es.length := by omega
    refine ⟨_, rfl, .inl ⟨rfl, us, SqL.of h1⟩, _, rfl, _, rfl, p, us, rfl, .inl (SqL.of h1), ?_⟩
    refine ⟨g, G, [.src, .d (.int (us.length : Nat))], some S', .int pk.1, some pk.2, fun b z => (gl b z).2.2, h3, .src hg (.cons (.int _) .nil), rfl, ?_, fun v H2 ps _ => ?_⟩
    · have hsz : sizeLine < 1073741824 := by decide
      have hlt : ((us.length : Nat) : Int) < 1073741824 := by omega
      simp only [pickF]
      rw [if_pos hlt, hul, hpk]
    obtain rfl := ps.dat.intE
    have hp2 : H2 p = some (.lst us) := ps.keep _ _ h1 np
    have hD2 : H2 Dn = some (.lst acc) := ps.keep _ _ h5 nD
    have hsl : sizeLine < 2 ^ 62 := by decide
    obtain ⟨y, hy, dy⟩ := (h2.keep ps.keep h3 fun b z => (gl b z).2.2).get (List.getElem?_eq_getElem hk)
    refine ⟨p, us, pk.1, pk.1.toNat, y, rfl, rfl, hp2, by omega, by omega, ?_, hy, ?_⟩
    · unfold seqIndex?
      rw [hul]
      simp only [show ¬ pk.1 < 0 by omega, if_false]
      first | (rw [if_pos (by omega)]) | (simp; omega)
    have h2' := h2.keep ps.keep h3 fun b z => (gl b z).2.2
    have h6' := h6.keep ps.keep h3 fun b z => (gl b z).2.2
    -- the two lists written
    have wr : ∀ {vs : List V} {ds : List D}, Dats w G H2 vs ds → Dats w G (upd (upd H2 p (.lst (us.eraseIdx pk.1.toNat))) Dn (.lst (acc ++ [y]))) vs ds := fun {vs ds} r =>
      r.go (fun b o z e => ⟨upd_keep (fun i => (gl b z).2.1 (by rw [i]; exact hDn)) (upd_keep (gl b z).1 e), z⟩) fun b o xs e => upd_keep (fun i => by rw [i, hD2] at e; cases e) (upd_keep (fun i => by rw [i, hp2] at e; cases e) e)
    have wr1 : ∀ {v : V} {d : PyData}, Dat w G H2 v d → Dats w G (upd (upd H2 p (.lst (us.eraseIdx pk.1.toNat))) Dn (.lst (acc ++ [y]))) [v] [d] := fun {v d} r => wr (.cons r .nil)
    have hal := h6.length
    refine ⟨acc, by rw [upd_ne (Ne.symm pD)]; exact hD2, by omega, us.eraseIdx pk.1.toNat, acc ++ [y], es.eraseIdx pk.1.toNat, accd ++ [es[pk.1.toNat]], pk.2, by rw [upd_ne pD, upd_same], wr (Dats.erase _ h2'), ?_, fun b o e n1 n2 => ?_, upd_same, ?_, ?_, by rw [List.length_append, h8]; rfl, ?_, ?_⟩
    · exact (ps.src.upd np).upd nD
    · exact upd_keep (ne_of_none e hDn) (upd_keep n2 (ps.keep _ _ (h4 b o e n1 n2) n1))
    · exact (wr h6').append (wr1 dy)
    · rw [List.length_eraseIdx]
      rw [if_pos hk]
      omega
    · have e1 : (es.eraseIdx pk.1.toNat).length = m := by rw [List.length_eraseIdx, if_pos hk]; omega
      rw [e1, ← h9, List.append_assoc]
      have e2 : es.getD pk.1.toNat PyData.none = es[pk.1.toNat] := by
        rw [List.getD_eq_getElem?_getD, List.getElem?_eq_getElem hk]
        rfl
      simp only [e2]
      rfl
    · have e1 : (es.eraseIdx pk.1.toNat).length = m := by rw [List.length_eraseIdx, if_pos hk]; omega
      rw [e1]
      exact h10
  · have e0 : es.length = 0 := by omega
    rw [e0, orderS, List.append_nil] at h9
    rw [e0, orderS] at h10
    subst h9
    exact q Dn Hc acc hDn h4 (by rw [← h10]; exact h3) h5 h6
end Os
end
section
set_option linter.all false
set_option maxRecDepth 100000
set_option maxHeartbeats 4000000
/-! OsY: _law_any_order entered; _law_open_cells. -/
namespace Os
open PySem PySem.Spec PyProof.Rows L2

theorem order_enter {w : World} {K : PySem.W.Frag} : ∀ vs H Q E, spF w orderF vs H Q E → od0 w K { nx := fun _ H' => Q .non H', rt := Q } (L2.start orderN vs) H := by
  rintro vs H Q E ⟨g, G, as, s, d, s', gok, r, ha, hl, hs, q⟩
  unfold orderF at hs
  dsimp only at hs
  split at hs
  · rename_i x S
    obtain ⟨xs, h1, h2⟩ := bind_some hs
    split at h2
    · rename_i hz
      cases h2
      cases ha with
      | src hg ha =>
        cases ha with
        | cons hd ha =>
          cases ha
          have hb : ∃ z, dB1 .list x = some z ∧ z = .list xs := by
            cases x <;> simp [seqOf] at h1
            · subst h1
              exact ⟨_, rfl, rfl⟩
            · subst h1
              exact ⟨_, rfl, rfl⟩
          obtain ⟨z, hb, rfl⟩ := hb
          refine ⟨_, rfl, _, rfl, G, x, _, hd, hb, fun v H1 sm _ nl => ?_⟩
          obtain ⟨p, us, ys, rfl, e2, e3, e4, e5⟩ := nl (.inl rfl)
          cases e2
          have r1 := r.same sm
          have np : ¬ Own2 g p := fun z => r.there z e3
          refine od_run (G := fun b => (Up G H b ∧ b ≠ p) ∧ H1 b ≠ none) hg r1 e4 np e5.live (fun b z => ⟨z.1.2, z.2, Up.gok r gok b z.1.1⟩) hz fun D H' vs2 d1 d2 d3 d4 d5 => ?_
          have aD : H D = none := Same.dead sm d1
          have nD : ∀ b, H1 b ≠ none → b ≠ D := fun b z e => z (e ▸ d1)
          refine q _ H' ⟨fun b o e n => d2 b o (sm _ _ e) n (ne_of_none e e3), d3, .list (.inr aD) d4 (d5.mono fun b z => z.1.1)⟩ fun _ => ⟨D, vs2, _, rfl, rfl, aD, d4, d5.mono fun b z => ⟨z.1.1, nD b z.2⟩⟩
    · cases h2
  · cases hs

/-! ### _law_open_cells -/
def absI (i : Int) : Int := if i < 0 then -i else i
def stirS : Int → List Int → Int
  | y, [] => y
  | y, x :: r => stirS ((y * 69069 + x * 31 + 5) % 2147483629) r
def openS (ns : List Int) : Src := ⟨(ns.map absI).reverse, 1, stirS 11 ns, 0⟩
def openN : List Str := ["_law_script", "_law_stirred", "_law_cell", "_law_cells"]
def spOpen (K : PySem.W.Frag) : Sp := fun vs H Q _ => ∃ (l : Addr) (ns : List Int), vs = [.ref l] ∧ SqL K H l (ns.map V.int) ∧ ns.length ≤ sizeLine ∧
  ∀ a c H', Same H H' → H a = none → H c = none → a ≠ c → H' a = some (.dK (kvS c (openS ns))) → H' c = some (.lst ((openS ns).cells.map V.int)) → Q (.ref a) H'
def op3 (K : PySem.W.Frag) : TS := tRet (tDisp [(tC (.str "cells"), tRevL K (tVar 3)), (tC (.str "left"), tC (.int 1)), (tC (.str "mixed"), tVar 1), (tC (.str "turn"), tC (.int 0))])
def op2 (w : World) (K : PySem.W.Frag) : TS := tSeq (tAsg (tLc (iList K (tVar 0)) (gName 2) tYes (tCB (rB1N w .abs) (tCons (tVar 2) tNil)) [2]) (gName 3)) (op3 K)
def op1b (w : World) : TS := tAsg (tOp rModI (tInt1 w (tOp rAddI (tOp rAddI (tOp rMulI (tVar 1) (tC (.int 69069))) (tOp rMulI (tVar 2) (tC (.int 31)))) (tC (.int 5)))) (tC (.int 2147483629))) (gName 1)
def op1 (w : World) (K : PySem.W.Frag) : TS := tSeq (tFor (iList K (tVar 0)) (gName 2) (op1b w)) (op2 w K)
def op0 (w : World) (K : PySem.W.Frag) : TS := tSeq (tAsg (tC (.int 11)) (gName 1)) (op1 w K)

theorem sSK1 : mergeK [] [((.inr "cells" : Key), v1), (.inr "left", v2), (.inr "mixed", v3), (.inr "turn", v4)] = [((.inr "cells" : Key), v1), (.inr "left", v2), (.inr "mixed", v3), (.inr "turn", v4)] := by
  have h1 : ¬ (("cells" : Str) = "mixed") := by decide +kernel
  have h2 : ¬ (("left" : Str) = "mixed") := by decide +kernel
  have h3 : ¬ (("cells" : Str) = "left") := by decide +kernel
  have h4 : ¬ (("cells" : Str) = "turn") := by decide +kernel
  have h5 : ¬ (("left" : Str) = "turn") := by decide +kernel
  have h6 : ¬ (("mixed" : Str) = "turn") := by decide +kernel
  simp [mergeK, putK, h1, h2, h3, h4, h5, h6]
theorem open_enter {w : World} {K : PySem.W.Frag} : ∀ vs H Q E, spOpen K vs H Q E → op0 w K { nx := fun _ H' => Q .non H', rt := Q } (L2.start openN vs) H := by
  rintro vs H Q E ⟨l, ns, rfl, hs, hz, q⟩
  show op1 w K _ [some (.ref l), some (.int 11), none, none] H
  refine ⟨_, rfl, l, rfl, ⟨_, hs⟩, for_list (xs := ns.map V.int) (fun i σ H' => ∃ (y : Int) (o : Option V), σ = [some (.ref l), some (.int y), o, none] ∧ Same H H' ∧ stirS y (ns.drop i) = stirS 11 ns) ⟨11, none, rfl, Same.refl H, by simp⟩ (fun i σ H' _ ⟨y, o, _, sm, _⟩ => sm.seq hs) (fun i x σ H' hx ⟨y, o, e, sm, st⟩ => ?_) fun σ H' ⟨y, o, e, sm, st⟩ => ?_⟩
  · subst e
    rw [List.getElem?_map] at hx
    obtain ⟨z, hz1, rfl⟩ := map_some hx
    have hdr : ns.drop i = z :: ns.drop (i + 1) := by
      obtain ⟨hl, hv⟩ := List.getElem?_eq_some_iff.mp hz1
      rw [← hv]
      exact List.drop_eq_getElem_cons hl
    rw [hdr, stirS] at st
    show op1b w _ [some (.ref l), some (.int y), some (.int z), none] H'
    refine ⟨_, rfl, _, 69069, rfl, rfl, .inr (by decide), _, rfl, z, 31, rfl, rfl, .inr (by decide), _, _, rfl, rfl, _, 5, rfl, rfl, intQ rfl fun H2 k2 => ?_⟩
    exact ⟨_, 2147483629, rfl, rfl, show (0 : Int) < 2147483629 by decide, _, some (.int z), rfl, sm.trans k2, st⟩
  · subst e
    have e0 : ns.drop (ns.map V.int).length = [] := by rw [List.length_map]; exact List.drop_length ..
    rw [e0, stirS] at st
    subst st
    refine ⟨_, rfl, l, rfl, ⟨_, sm.seq hs⟩, fun Dn hD => ?_⟩
    have lcl := fun (Hc : Hp) (k : Same H' Hc) => k.seq (sm.seq hs)
    refine lc_list (xs := ns.map V.int) (fun i Hc => Same H' Hc ∧ Hc Dn = some (.lst (((ns.take i).map absI).map V.int))) ⟨same_new hD, by simpa using upd_same⟩ (fun i Hc _ ⟨k, _⟩ => lcl Hc k) (fun i x Hc hx ⟨k, hc⟩ => ?_) fun Hc ⟨k, hc⟩ => ?_
    · rw [List.getElem?_map] at hx
      obtain ⟨z, hz1, rfl⟩ := map_some hx
      obtain ⟨hl, hv⟩ := List.getElem?_eq_some_iff.mp hz1
      refine ⟨rfl, ?_⟩
      show tYes _ _ _
      refine ⟨_, rfl, intQ (j := absI z) rfl fun H2 k2 => ?_⟩
      refine ⟨_, k2 _ _ hc, by simp; omega, fun b o e => upd_keep (ne_of_none e hD) (k2 _ _ (k _ _ e)), ?_⟩
      rw [upd_same, List.take_succ, hz1]
      simp
    · have e1 : ns.take (ns.map V.int).length = ns := by rw [List.length_map]; exact List.take_length ..
      rw [e1] at hc
      show op3 K _ [some (.ref l), some (.int (stirS 11 ns)), o, some (.ref Dn)] Hc
      intro a ha
      have nDa : Dn ≠ a := ne_of_none hc ha
      refine ⟨_, rfl, Dn, _, rfl, SqL.of (upd_keep nDa hc), fun c hcn => ⟨_, rfl, upd_keep (fun z => by rw [← z, upd_same] at hcn; cases hcn) upd_same, [(.inr "cells", .ref c), (.inr "left", .int 1), (.inr "mixed", .int (stirS 11 ns)), (.inr "turn", .int 0)], rfl, by show 4 ≤ 15; decide, ?_⟩⟩
      rw [sSK1]
      have nac : a ≠ c := fun z => by
        rw [← z, upd_same] at hcn
        cases hcn
      have hcc : Hc c = none := by
        rw [upd_ne (Ne.symm nac)] at hcn
        exact hcn
      have dead : ∀ b, Hc b = none → H b = none := fun b z => Same.dead (sm.trans k) z
      refine q a c _ (fun b o e => ?_) (dead a ha) (dead c hcc) nac upd_same ?_
      · have e1 := (sm.trans k) _ _ e
        exact upd_keep (ne_of_none e1 ha) (upd_keep (ne_of_none e1 hcc) (upd_keep (ne_of_none e1 ha) e1))
      · rw [upd_ne (Ne.symm nac), upd_same]
        simp [openS]
end Os
end
section
set_option linter.all false
set_option maxRecDepth 100000
set_option maxHeartbeats 4000000
/-! OsZ: plain facts for the laws' answers: texts told, loops, orders. -/
namespace Os
open PySem PySem.Spec PyProof.Rows L2

mutual
/-- ints of twelve figures, signs in range, no dict -/
def okD : D → Bool
  | .none => true
  | .bool _ => true
  | .int i => decide (i.natAbs < 10 ^ 12)
  | .str x => PyData.strOk x
  | .list xs => okAll xs
  | .tuple xs => okAll xs
  | .dict _ => false
def okAll : List D → Bool
  | [] => true
  | x :: xs => okD x && okAll xs
end
theorem okAll_iff : ∀ {xs : List D}, okAll xs = true ↔ ∀ x ∈ xs, okD x = true
  | [] => by simp [okAll]
  | x :: xs => by simp [okAll, okAll_iff (xs := xs)]
mutual
theorem ok_lay : ∀ {d : D}, okD d = true → d.canLay0 = true
  | .none, _ => by simp [PyData.canLay0]
  | .bool _, _ => by simp [PyData.canLay0]
  | .int _, _ => by simp [PyData.canLay0]
  | .str x, h => by simpa [PyData.canLay0, okD] using h
  | .list xs, h => by simpa [PyData.canLay0] using ok_layA (xs := xs) (by simpa [okD] using h)
  | .tuple xs, h => by simpa [PyData.canLay0] using ok_layA (xs := xs) (by simpa [okD] using h)
  | .dict _, h => by simp [okD] at h
theorem ok_layA : ∀ {xs : List D}, okAll xs = true → PyData.canLayAll0 xs = true
  | [], _ => by simp [PyData.canLayAll0]
  | x :: xs, h => by
    rw [okAll, Bool.and_eq_true] at h
    simp [PyData.canLayAll0, ok_lay h.1, ok_layA h.2]
end
mutual
theorem ok_short : ∀ {d : D}, okD d = true → d.intsShort 13 = true
  | .none, _ => by simp [PyData.intsShort]
  | .bool _, _ => by simp [PyData.intsShort]
  | .int i, h => by
    have h' : i.natAbs < 10 ^ 12 := by simpa [okD] using h
    simpa [PyData.intsShort] using PyData.shown_int_le h'
  | .str x, h => by simp [PyData.intsShort]
  | .list xs, h => by simpa [PyData.intsShort] using ok_shortA (xs := xs) (by simpa [okD] using h)
  | .tuple xs, h => by simpa [PyData.intsShort] using ok_shortA (xs := xs) (by simpa [okD] using h)
  | .dict _, h => by simp [okD] at h
theorem ok_shortA : ∀ {xs : List D}, okAll xs = true → PyData.intsShortAll 13 xs = true
  | [], _ => by simp [PyData.intsShortAll]
  | x :: xs, h => by
    rw [okAll, Bool.and_eq_true] at h
    simp [PyData.intsShortAll, ok_short h.1, ok_shortA h.2]
end
theorem log12 {i : Int} (h : i.natAbs < 10 ^ 12) : i.natAbs.log2 < 1920 := by
  by_cases h0 : i.natAbs = 0
  · rw [h0]
    decide
  · have : i.natAbs < 2 ^ 40 := Nat.lt_trans h (by decide)
    have := (Nat.log2_lt h0).mpr this
    omega
mutual
theorem ok_showable : ∀ {d : D}, okD d = true → d.showable = true
  | .none, _ => by simp [PyData.showable]
  | .bool _, _ => by simp [PyData.showable]
  | .int i, h => by
    have h' : i.natAbs < 10 ^ 12 := by simpa [okD] using h
    simpa [PyData.showable] using log12 h'
  | .str x, h => by simp [PyData.showable]
  | .list xs, h => by simpa [PyData.showable] using ok_showableA (xs := xs) (by simpa [okD] using h)
  | .tuple xs, h => by simpa [PyData.showable] using ok_showableA (xs := xs) (by simpa [okD] using h)
  | .dict _, h => by simp [okD] at h
theorem ok_showableA : ∀ {xs : List D}, okAll xs = true → PyData.showableAll xs = true
  | [], _ => by simp [PyData.showableAll]
  | x :: xs, h => by
    rw [okAll, Bool.and_eq_true] at h
    simp [PyData.showableAll, ok_showable h.1, ok_showableA h.2]
end
/-- small enough to be told -/
structure Tm (k n : Nat) (d : D) : Prop where
  ok : okD d = true
  dp : d.depth ≤ k
  bk : d.bulk ≤ n
theorem Tm.mono {k n k' n' : Nat} {d : D} (h : Tm k n d) (h1 : k ≤ k') (h2 : n ≤ n') : Tm k' n' d := ⟨h.ok, Nat.le_trans h.dp h1, Nat.le_trans h.bk h2⟩
theorem Tm.none {k n : Nat} : Tm k n .none := ⟨rfl, Nat.zero_le _, Nat.zero_le _⟩
theorem Tm.bool {k n : Nat} (b : Bool) : Tm k n (.bool b) := ⟨rfl, Nat.zero_le _, Nat.zero_le _⟩
theorem Tm.int {k n : Nat} {i : Int} (h : i.natAbs < 10 ^ 12) : Tm k n (.int i) := ⟨by simpa [okD] using h, Nat.zero_le _, by simp [PyData.bulk]⟩
theorem Tm.str {k n : Nat} {x : Str} (h : PyData.strOk x = true) (hl : x.length ≤ n) : Tm k n (.str x) := ⟨by simpa [okD] using h, Nat.zero_le _, by simp only [PyData.bulk]; exact hl⟩
theorem bulkAll_le {m : Nat} : ∀ {xs : List D}, (∀ x ∈ xs, x.bulk ≤ m) → PyData.bulkAll xs ≤ xs.length * (m + 1)
  | [], _ => by simp [PyData.bulkAll]
  | x :: xs, h => by
    have h1 := bulkAll_le (xs := xs) fun y hy => h y (List.mem_cons_of_mem _ hy)
    have h2 := h x List.mem_cons_self
    simp only [PyData.bulkAll, List.length_cons, Nat.add_mul]
    omega
theorem depthAll_le {k : Nat} : ∀ {xs : List D}, (∀ x ∈ xs, x.depth ≤ k) → PyData.depthAll xs ≤ k
  | [], _ => by simp [PyData.depthAll]
  | x :: xs, h => by
    have h1 := depthAll_le (xs := xs) fun y hy => h y (List.mem_cons_of_mem _ hy)
    have h2 := h x List.mem_cons_self
    simp only [PyData.depthAll]
    omega
theorem Tm.list {k m n : Nat} {xs : List D} (h : ∀ x ∈ xs, Tm k m x) (hn : xs.length * (m + 1) ≤ n) : Tm (k + 1) n (.list xs) :=
  ⟨by simpa [okD] using okAll_iff.mpr fun x hx => (h x hx).ok, by simpa [PyData.depth] using depthAll_le fun x hx => (h x hx).dp, by
    have := bulkAll_le (m := m) (xs := xs) fun x hx => (h x hx).bk
    simp only [PyData.bulk]
    omega⟩
theorem Tm.tup {k m n : Nat} {xs : List D} (h : ∀ x ∈ xs, Tm k m x) (hn : xs.length * (m + 1) ≤ n) : Tm (k + 1) n (.tuple xs) :=
  ⟨by simpa [okD] using okAll_iff.mpr fun x hx => (h x hx).ok, by simpa [PyData.depth] using depthAll_le fun x hx => (h x hx).dp, by
    have := bulkAll_le (m := m) (xs := xs) fun x hx => (h x hx).bk
    simp only [PyData.bulk]
    omega⟩
theorem Tm.shaped {k n : Nat} {d : D} (h : Tm k n d) (hk : k ≤ 64) : SeqAt.shaped d = true := by
  unfold SeqAt.shaped
  rw [Bool.and_eq_true]
  exact ⟨ok_lay h.ok, decide_eq_true (Nat.le_trans h.dp hk)⟩
theorem Tm.repr {k n : Nat} {d : D} (h : Tm k n d) (hk : k ≤ 60) (hn : n ≤ 1048576) : dRepr d = some (.str d.shown) := by
  unfold dRepr
  have h1 := ok_showable h.ok
  have h2 := PyData.hasDict_of_canLay d (ok_lay h.ok)
  have h3 : d.depth ≤ 60 := Nat.le_trans h.dp hk
  have h4 : d.shown.length ≤ sizeLine := by
    have e := PyData.shown_le_bulk 13 (by decide) d (PyData.leavesShort_of_canLay0 13 d (ok_lay h.ok) (ok_short h.ok))
    have e2 : (13 + 2) * d.bulk ≤ 15 * 1048576 := Nat.mul_le_mul (by decide) (Nat.le_trans h.bk hn)
    rw [sizeLine_eq]
    omega
  rw [if_pos ⟨h1, h2, h3, h4⟩]
theorem Tm.eqv {k n : Nat} {d : D} (h : Tm k n d) : PyData.eqv d d = true := SeqAt.eqv_refl d (ok_lay h.ok)

/-! ### comprehensions, loops -/
theorem compRun_pure {ft : LS → S1 → Option (Bool × S1)} {fe : LS → S1 → Option (D × S1)} {t : MT} {ρ : LS} {s : S1} (p : D → Bool) (f : D → D) : ∀ {xs : List D}, (∀ x ∈ xs, ∃ ρ1, bindT t x ρ = some ρ1 ∧ ft ρ1 s = some (p x, s) ∧ (p x = true → fe ρ1 s = some (f x, s))) →
    compRun ft fe t ρ xs s = some ((xs.filter p).map f, s)
  | [], _ => rfl
  | x :: xs, h => by
    obtain ⟨ρ1, h1, h2, h3⟩ := h x List.mem_cons_self
    have ih := compRun_pure p f (xs := xs) fun y hy => h y (List.mem_cons_of_mem _ hy)
    rw [compRun, h1]
    simp only [Option.bind, h2]
    cases hp : p x with
    | true =>
      simp only [h3 hp, ih, if_true, Option.map]
      rw [List.filter_cons_of_pos hp, List.map_cons]
    | false =>
      simp only [ih, Bool.false_eq_true, if_false]
      rw [List.filter_cons_of_neg (by simp [hp])]
theorem compRun_map {ft : LS → S1 → Option (Bool × S1)} {fe : LS → S1 → Option (D × S1)} {t : MT} {ρ : LS} {s : S1} (f : D → D) {xs : List D} (h : ∀ x ∈ xs, ∃ ρ1, bindT t x ρ = some ρ1 ∧ ft ρ1 s = some (true, s) ∧ fe ρ1 s = some (f x, s)) : compRun ft fe t ρ xs s = some (xs.map f, s) := by
  rw [compRun_pure (fun _ => true) f fun x hx => let ⟨ρ1, h1, h2, h3⟩ := h x hx; ⟨ρ1, h1, h2, fun _ => h3⟩, List.filter_eq_self.mpr fun _ _ => rfl]
theorem forRun_ind {f : LSS → S1 → Option Res} {t : MT} (P : Nat → LSS → S1 → Prop) : ∀ (xs : List D) (k : Nat) {ρ : LSS} {s : S1}, P k ρ s →
    (∀ i x ρ s, xs[i]? = some x → P (k + i) ρ s → ∃ ρ1 ρ2 s2, bindS t x ρ = some ρ1 ∧ (f ρ1 s = some (.nx ρ2 s2) ∨ f ρ1 s = some (.ct ρ2 s2)) ∧ P (k + i + 1) ρ2 s2) → ∃ ρ' s', forRun f t xs ρ s = some (.nx ρ' s') ∧ P (k + xs.length) ρ' s'
  | [], k, ρ, s, h, _ => ⟨ρ, s, rfl, h⟩
  | x :: xs, k, ρ, s, h, hs => by
    obtain ⟨ρ1, ρ2, s2, h1, h2, h3⟩ := hs 0 x ρ s rfl h
    obtain ⟨ρ', s', h4, h5⟩ := forRun_ind P xs (k + 1) (ρ := ρ2) (s := s2) h3 fun i y ρ3 s3 hy hp => by
      have e : k + 1 + i = k + (i + 1) := by omega
      rw [e] at hp ⊢
      exact hs (i + 1) y ρ3 s3 (by simpa using hy) hp
    refine ⟨ρ', s', ?_, by rw [List.length_cons]; rw [show k + (xs.length + 1) = k + 1 + xs.length by omega]; exact h5⟩
    rw [forRun, h1]
    rcases h2 with h2 | h2
    · simp only [Option.bind, h2]
      exact h4
    · simp only [Option.bind, h2]
      exact h4
theorem erase_perm : ∀ {xs : List D} {i : Nat} (h : i < xs.length), (xs[i] :: xs.eraseIdx i).Perm xs
  | x :: xs, 0, h => .refl _
  | x :: xs, i + 1, h => by
    have h' : i < xs.length := by simpa using h
    simp only [List.getElem_cons_succ, List.eraseIdx_cons_succ]
    exact (List.Perm.swap _ _ _).trans (List.Perm.cons _ (erase_perm h'))
theorem orderS_perm : ∀ (n : Nat) (xs : List D) (S : Src), xs.length = n → (orderS n xs S).1.Perm xs
  | 0, xs, S, h => by
    cases xs with
    | nil => exact .refl _
    | cons => cases h
  | n + 1, xs, S, h => by
    have hr := pickS_range (m := (xs.length : Int)) (S := S) (by omega)
    have hk : (pickS xs.length S).1.toNat < xs.length := by omega
    rw [orderS]
    have ih := orderS_perm n (xs.eraseIdx (pickS xs.length S).1.toNat) (pickS xs.length S).2 (by rw [List.length_eraseIdx, if_pos hk]; omega)
    have e : xs.getD (pickS xs.length S).1.toNat .none = xs[(pickS xs.length S).1.toNat] := by
      rw [List.getD_eq_getElem?_getD, List.getElem?_eq_getElem hk]
      rfl
    simp only [e]
    exact (List.Perm.cons _ ih).trans (erase_perm hk)
end Os
namespace Os
open PySem PySem.Spec PyProof.Rows L2
section
variable {Φ : List FE} {ρ ρ1 : LSS} {s s1 s2 : S1} {d x : D} {R : Option Res}
theorem sem_rt {fr : Bool} {n : Nat} {ms : MSs} {as : List SL} (ρ : LSS) (hρ : as.map argS ++ List.replicate (n - as.length) .un = ρ) (h : runs Φ ms ρ s = some (.rt d s1)) : semOf Φ fr n ms as s = some (d, s1) := by
  unfold semOf
  rw [hρ, h]
  rfl
theorem runs_rt {m : MS} {r : MSs} (h : run Φ m ρ s = some (.rt d s1)) : runs Φ (.cons m r) ρ s = some (.rt d s1) := by
  rw [runs, h]
  rfl
theorem runs_nx {m : MS} {r : MSs} (ρ1 : LSS) (s1 : S1) (h : run Φ m ρ s = some (.nx ρ1 s1)) (k : runs Φ r ρ1 s1 = R) : runs Φ (.cons m r) ρ s = R := by
  rw [runs, h]
  exact k
theorem run_ret {e : ME} (h : ev Φ e (ρ.map SS.r) s = some (d, s1)) : run Φ (.ret e) ρ s = some (.rt d s1) := by
  rw [run, h]
  rfl
theorem run_set {i : Nat} {md : Mode} {e : ME} {y : SS} (h : ev Φ e (vw md ρ) s = some (d, s1)) (h2 : slotOf Φ md e d = some y) (hi : i < ρ.length) : run Φ (.set i md e) ρ s = some (.nx (ρ.set i y) s1) := by
  rw [run, evM, h]
  simp only [Option.bind, h2, Option.map, hi, if_true]
theorem run_t {c : ME} {a b : MSs} (h : ev Φ c (ρ.map SS.r) s = some (x, s1)) (ht : tru x = some true) (k : runs Φ a ρ s1 = R) : run Φ (.ite c a b) ρ s = R := by
  rw [run, h]
  simp only [Option.bind, ht, if_true]
  exact k
theorem run_f {c : ME} {a b : MSs} (h : ev Φ c (ρ.map SS.r) s = some (x, s1)) (ht : tru x = some false) (k : runs Φ b ρ s1 = R) : run Φ (.ite c a b) ρ s = R := by
  rw [run, h]
  simp only [Option.bind, ht, Bool.false_eq_true, if_false]
  exact k
/-- a guard that is not taken -/
theorem run_skip {c : ME} {a : MSs} (h : ev Φ c (ρ.map SS.r) s = some (.bool false, s1)) : run Φ (.ite c a .nil) ρ s = some (.nx ρ s1) := run_f h rfl rfl
theorem run_for {t : MT} {it : MI} {b : MSs} {xs : List D} (h : evi Φ it (ρ.map SS.f) s = some (xs, s1)) (k : forRun (runs Φ b) t xs ρ s1 = R) : run Φ (.for_ t it b) ρ s = R := by
  rw [run, h]
  exact k
theorem ev_comp {elt : ME} {t : MT} {it : MI} {ifs : MEs} {own : List Nat} {ρ : LS} {xs ys : List D} (h : evi Φ it ρ s = some (xs, s1)) (hc : compRun (evt Φ ifs) (ev Φ elt) t (wipeS ρ own) xs s1 = some (ys, s2)) (hz : ys.length ≤ sizeLine) : ev Φ (.comp elt t it ifs own) ρ s = some (.list ys, s2) := by
  rw [ev, h]
  simp only [Option.bind, hc, hz, if_true]
theorem runs_nil : runs Φ .nil ρ s = some (.nx ρ s) := rfl
end
end Os
end
section
set_option linter.all false
set_option maxRecDepth 100000
set_option maxHeartbeats 4000000
/-! OxA: isinstance of a caught error that has its own dict. -/
namespace Os
open PySem PySem.Spec PySem.Calls PyProof.Rows
namespace Ex
open PySem.W
section
variable {prog : Program} {w : World} {K : Frag} {x D : Addr} {ox : Obj} {od : Option Obj}
theorem found_cls {a g : Value} {n : Str} (c : (clsIn K D).isSome = true) (h1 : findIn K (.ref D) n = some (some a)) (h2 : specialIn K a "__get__" = some (some g)) (h3 : takesIn K a = some true) : findObj K D od n = some (.bind g a) := by
  cases e : clsIn K D with
  | none => rw [e] at c; cases c
  | some cd =>
    simp [findObj, e, h1, h2, h3]
theorem cls_read (C : L2.ExcC K D) {A : Around} {E : Value → Shared → Prop} {s : Shared} {Q : Option Value → Shared → Prop} (X : K.In s.heap) (I : InstAt s.heap x ox D od)
    (h : Q (some (.ref D)) { s with toks := s.toks + 1 }) : wpAny (model prog w) A (getAttr? (.ref x) "__class__") Q E s := by
  have isc : (clsIn K D).isSome = true := by
    obtain ⟨cd, e, _⟩ := any_some C.hd
    rw [e]
    rfl
  have fo : findObj K D od "__class__" = some (.bind (.builtin "getset_descriptor.__get__") (.builtin "object.__class__")) := found_cls isc C.ha C.hn C.ht
  obtain ⟨hp, g, d, t, os⟩ := s
  have A0 := I.type (M := model prog w)
  have A1 := looks_findIn (M := model prog w) X C.hg
  have A2 := looks_findIn (M := model prog w) X C.hk
  have A3 := looks_find (M := model prog w) X I fo
  have A4 : Looks (model prog w) hp (isInstance (.ref x) (.type "BaseException")) true := A0.andThen (looks_subIn X C.hs)
  have z0 : (false && onTheHeap (Value.builtin "BaseException.__getattribute__")) = false := rfl
  have z1 : (Value.builtin "BaseException.__getattribute__" == Value.builtin "object.__getattribute__") = false := by decide +kernel
  have z2 : (onTheHeap (Value.ref D) && Value.builtin "BaseException.__getattribute__" == Value.builtin "object.__getattribute__") = false := by
    rw [z1]
    rfl
  unfold getAttr? getAttrBy? getAttrBy
  apply wpAny_bind
  apply wpAny_mkText
  apply wpAny_bind
  apply wpAny_attempt
  apply wpAny_holding
  apply wpAny_bind
  apply A0.at
  apply wpAny_bind
  apply A1.at
  show wpAny _ _ (if (onTheHeap (Value.ref D) && Value.builtin "BaseException.__getattribute__" == Value.builtin "object.__getattribute__") = true then _ else _) _ _ _
  rw [z2, if_neg Bool.false_ne_true]
  unfold getAttrByItsOwn hookBefore
  apply wpAny_bind
  rw [if_pos (show onTheHeap (Value.ref D) = true from rfl)]
  apply A2.at
  apply wpAny_bind
  apply wpAny_attempt
  apply wpAny_holding
  unfold callGetattribute
  rw [z0, if_neg Bool.false_ne_true]
  unfold boundAndCalled
  rw [PySem.F.excAttr_ValueError.ga.bind (.ref x)]
  apply wpAny_bind
  apply wpAny_pure
  show wpAny _ _ (call (.builtin "BaseException.__getattribute__") [.ref x, .str "__class__" t]) _ _ _
  apply wpAny_call
  apply codeAny_call_builtin PySem.F.excAttr_ValueError.ga.plain PySem.F.entry_bexc_ga
  refine @check_slot (model prog w) _ _ ⟨hp, g, d, t + 1, os⟩ "BaseException.__getattribute__" "BaseException" "__getattribute__" (.ref x) [.str "__class__" t] [] _ (by decide +kernel) (by decide +kernel) A4 (PySem.F.args_bexc_ga (.ref x) (.str "__class__" t)) ?_
  unfold Builtin.«object.__getattribute__»
  apply wpAny_bind
  refine wpAny_of_eq (a := ((Value.ref x : Value), [Value.str "__class__" t])) (by first | rfl | (simp only [slotArgs]; rfl)) ?_
  apply wpAny_bind
  apply wpAny_pure
  apply wpAny_bind
  apply A0.at
  apply wpAny_bind
  apply A3.at
  show wpAny _ _ (holding [Value.builtin "object.__class__"] (call (.builtin "getset_descriptor.__get__") [.builtin "object.__class__", .ref x, .ref D]) >>= ret) _ _ _
  apply wpAny_bind
  apply wpAny_holding
  apply wpAny_call
  refine class_get (s := ⟨hp, g, d, t + 1, os⟩) (ox := ox) (od := od) X I C.hm ?_
  apply wpAny_pure
  show wpAny _ _ (handedOut (.ref D)) _ _ _
  rw [handedOut_of (v := .ref D) rfl]
  first
    | exact wpAny_pure (wpAny_pure h)
    | exact wpAny_pure h
    | exact wpAny_pure (wpAny_bind (wpAny_pure (wpAny_pure h)))
theorem kit_exc (C : L2.ExcC K D) : KitX K (.ref x) (.ref D) (fun h => InstAt h x ox D od) where
  ty := by
    intro M h X I
    exact I.type
  it := by
    intro M h X I
    obtain ⟨cd, e, _⟩ := any_some C.hd
    unfold clsIn at e
    split at e
    · rename_i c1 d1 cd1 sl1 ho
      intro A1 Q1 E1 s1 k q
      unfold isType loadHead
      apply wpAny_bind
      exact wpAny_loadPart (k _ _ (X _ _ ho)) (wpAny_pure q)
    · cases e
  ne := by
    intro h tp dd its n sl X htp
    obtain ⟨cd, e, _⟩ := any_some C.hd
    unfold clsIn at e
    split at e
    · rename_i c1 d1 cd1 sl1 ho
      apply Bool.eq_false_iff.mpr
      intro q
      have e2 : D = tp := Value.ref.inj (beq_iff_eq.mp q)
      rw [e2] at ho
      have z := (X _ _ ho).symm.trans htp
      cases z
    · cases e
  ca := fun X I k => cls_read C X I k
end
end Ex
/-- isinstance(e, c), e the exception that the suite holds, of the class at D, its dict at dd -/
def rIsX (K : PySem.W.Frag) (a D : Addr) : List L2.V → L2.Hp → L2.VK → Prop := fun xs H Q => ∃ (c : L2.V) (cv : Value) (b : Bool) (dd : Addr) (fs : List (Str × L2.V)), xs = [.ref a, c] ∧ (∀ u, L2.RelV c u → u = cv) ∧ PySem.W.kitOne K (.ref D) cv = some b ∧ H dd = some (.xd fs) ∧ Q (.bl b) H
theorem call_isX {X : L2.Cx} {a D : Addr} {oe : Obj} {cls : Value} {d : Option Addr} {pn : List (Addr × Obj)} (C : L2.ExcC X.K D) (hz : L2.Zc cls d oe) (hf : ∃ vs, oe.data = .fields vs) :
    L2.CallR (X.suite a ((a, oe) :: pn)) (.builtin "isinstance") (fun xs H Q => cls = .ref D ∧ ∃ (c : L2.V) (cv : Value) (b : Bool) (dd : Addr) (fs : List (Str × L2.V)), xs = [.ref a, c] ∧ d = some dd ∧ (∀ u, L2.RelV c u → u = cv) ∧ PySem.W.kitOne X.K (.ref D) cv = some b ∧ H dd = some (.xd fs) ∧ Q (.bl b) H) := by
  intro pins s σ H xs us Q I r h
  obtain ⟨rfl, c, cv, b, dd, fs, rfl, rfl, hcv, e, hd, q⟩ := h
  cases r with
  | cons rx rr =>
    cases rr with
    | cons rt rr =>
      cases rr
      cases rx
      have ec := hcv _ rt
      subst ec
      obtain ⟨hget, _⟩ := I.pin (a, oe) (List.mem_append.mpr (.inl List.mem_cons_self))
      obtain ⟨vs, hv⟩ := hf
      obtain ⟨mA, hns, _⟩ := (show L2.ObjOk X.prog X.w H s.heap dd (.xd fs) from I.hok dd _ hd)
      obtain ⟨od, es, ep, ho, _⟩ := hns
      have J : PySem.W.InstAt s.heap a oe D (some od) := by
        obtain ⟨oc, o2, oda, osl⟩ := oe
        obtain ⟨h1, h2⟩ := hz
        dsimp only at h1 h2 hv
        subst h1 h2 hv
        exact ⟨hget, rfl, rfl, ho⟩
      exact PySem.W.kia_one (Ex.kit_exc C) I.kIn J e (fun z => nomatch z) fun tk => ⟨.bl b, H, I.kept (t' := tk) fun _ _ z => z, rfl, q⟩
end Os
end
section
set_option linter.all false
set_option maxRecDepth 100000
set_option maxHeartbeats 4000000
/-! OxB: an __init__ of an own error class that says super().__init__(..). -/
namespace Os
open PySem PySem.Spec PySem.Calls PyProof.Rows L2
namespace Ex
section
variable {prog : Program} {w : World} {A : Around} {E : Value → Shared → Prop} {h : Heap} {g : Array GenState} {d : Drawn} {t : Nat} {os : OsState}
variable {nm q : Str} {C N : Addr} {bs bm : List Value} {hdct : Bool} {sn : List Str} {sub : List Value} {ab : Bool} {col : Option Bool} {dd : Option Addr} {k0 k1 k2 k3 k5 : Option Value}
/-- the bound ValueError.__init__ is called -/
theorem call_mw {u e t0 : Addr} {rest : List Value} {Q : Value → Shared → Prop}
    (hC : h.get? C = some (excClassObj nm q C N bs bm hdct sn sub ab col dd k0 k1 k2 k3 k5 "ValueError.__new__")) (he : h.get? e = some (HandSPX.excO C t0)) (hu : h.get? u = some (PySem.W.kxs_mw "ValueError.__init__" e)) (hrest : rest.length ≤ sizeLine)
    (hq : ∀ h' t1, (∀ b o, b ≠ e → h.get? b = some o → h'.get? b = some o) → h'.get? e = some (HandSPX.excO C t1) → Q .none ⟨h', g, d, t, os⟩) :
    wpAny (model prog w) A (call (.ref u) rest) Q E ⟨h, g, d, t, os⟩ := by
  apply wpAny_call
  apply codeAny_of_tree
  show wpAny _ A.in1 (callAny (.ref u) ⟨rest, []⟩) _ _ _
  simp only [callAny]
  apply wpAny_bind
  apply wpAny_load hu
  simp only [PySem.W.kxs_mw, show (Value.type "method-wrapper" == Value.type "method" || Value.type "method-wrapper" == Value.type "builtin_function_or_method" || Value.type "method-wrapper" == Value.type "method-wrapper") = true by decide, if_true]
  refine PySem.W.KFB.if_so (by decide) ?_
  apply wpAny_bind
  refine PySem.W.check_bound_init F.excBase_ValueError.toExcCallFacts hC he rfl ?_
  refine wpAny_bind (wpAny_pure (wpAny_pure ?_))
  refine ⟨plainId_quiet F.excBase_ValueError.init.plain _, codeAny_builtin F.excBase_ValueError.initEntry ?_⟩
  exact PySem.W.exc_init_tree (cls := .ref C) (t0 := t0) (dv := none) (c2 := .none) (b4 := .bool false) he hrest fun h' k1 k2 _ => hq h' _ k1 k2
end
end Ex
/-- what the written part says of an __init__ (at fI, its code's cell of the class at cc) of the class at C -/
structure SupT (P : Program) (K : PySem.W.Frag) (mg : Str → Option Value) (C fI cc : Addr) (F : NdefX.NF) (fd : FuncData) : Prop where
  cl : F.cl = [(("__class__" : Str), cc)]
  fn : ∃ (oc dV kV doc pm ctv : Value) (od an : Option Addr) (osl : Array (Option Value)), fd = PySem.W.fnX F.name F.qual F.params F.body F.scope F.cl dV kV doc pm an (.ref F.c) ctv ∧ K.lookup fI = some ⟨oc, od, .func fd, osl⟩
  code : PySem.W.codeIn K (.ref F.c) F.qual = true
  rcd : ∃ (ccl : Value) (cdd : Option Addr) (vs : Array Value) (ccs : Array (Option Value)) (file : Str) (tf : Tok), K.lookup F.c = some ⟨ccl, cdd, .fields vs, ccs⟩ ∧ vs[2]? = some (.str file tf) ∧ ((P.main.file : Str) == file) = true
  cell : ∃ (cl : Value) (cld : Option Addr) (csl : Array (Option Value)), K.lookup cc = some ⟨cl, cld, .cell (some (.ref C)), csl⟩
  self : PySem.W.mroIn K C (.ref C) = some true
  top : (P.main.scope.names.lookup ("super" : Str)).isSome = false
  glob : mg "super" = none
  opq : PySem.W.nsIn K cStatics "thirdparty.any" = some none
  init : PySem.W.ks_superIn K C C "__init__" = some (some (.builtin "ValueError.__init__"))
  sub : PySem.W.subIn K (.ref C) (.type "ValueError") = some true
  fst : (F.params.posonlyargs ++ F.params.args).head?.map (·.arg) = some "self"
  kS : F.scope.names.lookup ("super" : Str) = some .globalImplicit
  kC : F.scope.names.lookup ("__class__" : Str) = some .free
section
variable {CX : CXT} {P : Program} {w : World} {K : PySem.W.Frag} {mg : Str → Option Value} {base : Heap} {C fI cc : Addr} {F : NdefX.NF} {fd : FuncData} {N ps : List Str} {k : Nat} {sp : Sp} {p0 p1 p2 p3 p4 : Pos} {e1 : Expr} {rest : List Stmt}
theorem init_ok (T : SupT P K mg C fI cc F fd) (O : OexC K C) (S : NdefX.NScope N (("self" : Str) :: ps) ["__class__"] F.scope) (hb : F.body = .Expr (.Call (.Attribute (.Call (.Name "super" p0) [] [] p1) "__init__" p2) [e1] [] p3) p4 :: rest)
    (hlen : ∀ vs H Q E, sp vs H Q E → vs.length = (("self" : Str) :: ps).length)
    (hbody : ∀ (A : Around) (outer : List Env) (s : Shared) (H : Hp) (vs : List V) (Q : VK) (E : XK), Room k (A.deeper (NdefX.envF F fI s.heap.objs.size)) → sp vs H Q E →
      ∃ (a : Addr) (r : List V) (ta : TA) (t : TS), vs = .ref a :: r ∧ H a = some (exo a C none) ∧ PA (NdefX.ncx CX P w K mg base N F fI A outer s H E) [e1] ta ∧ PSs (NdefX.ncx CX P w K mg base N F fI A outer s H E) rest t ∧
        ta (NdefX.startF N vs [none]) H (fun us H1 => us.length ≤ 1000 ∧ H1 a = some (exo a C none) ∧ t { nx := fun _ H' => Q .non H', rt := Q } (NdefX.startF N vs [none]) H1))
    (hev : ∀ L : Addr, ∃ pl : Sem Bool, eval (.Call (.Attribute (.Call (.Name "super" p0) [] [] p1) "__init__" p2) [e1] [] p3) (NdefX.envF F fI L) = (do
      let ov ← attributeBase (.Call (.Name "super" p0) [] [] p1) "__init__" (NdefX.envF F fI L) (eval (.Call (.Name "super" p0) [] [] p1) (NdefX.envF F fI L))
      standAt p2.atName
      let (f, first) ← holding [ov] (getMethod ov "__init__" pl)
      callWith p3 f first (backTo p3 (starEach [e1] (NdefX.envF F fI L))) []))
    (hi : ∀ L : Addr, interactive (NdefX.envF F fI L) = false) (hs : ∀ L : Addr, swapsWith (.Call (.Attribute (.Call (.Name "super" p0) [] [] p1) "__init__" p2) [e1] [] p3) none p4.line (NdefX.envF F fI L) = pure false)
    (he : ∀ L : Addr, starEach [e1] (NdefX.envF F fI L) = (false, eval e1 (NdefX.envF F fI L)) :: starEach [] (NdefX.envF F fI L)) :
    FnOk P w K mg base CX (k + 1) fI fd (("self" : Str) :: ps) sp := by
  constructor
  · exact hlen
  intro A outer s H args us vs Q E hr e0 hbind r hsp
  obtain ⟨oc, dV, kV, doc, pm, ctv, od, an, osl, rfl, lk⟩ := T.fn
  have KX : K.In s.heap := e0.mod.kin.keeps fun b o e => (e0.bs b o e).1
  have hl := hlen _ _ _ _ hsp
  have lim : s.heap.NoLimit := e0.mod.nolimit.keeps fun b o e => (e0.bs b o e).1
  obtain ⟨ol, old, osl2, lcell⟩ := T.cell
  obtain ⟨ccl, cdd, cvs, ccs, file, tf, lrec, hvs, hfile⟩ := T.rcd
  have hcc : H cc = none := (e0.bs cc _ (e0.mod.kin _ _ lcell)).2
  have CA : NdefX.CellsAt F.cl ["__class__"] [none] s.heap H := by
    rw [T.cl]
    refine ⟨rfl, fun y c hy => ?_, fun x y c hx hy => ?_, fun i y hi => ?_⟩
    · have : y = "__class__" ∧ c = cc := by
        by_cases hq : y = "__class__"
        · subst hq
          simp [List.lookup] at hy
          exact ⟨rfl, hy.symm⟩
        · have : (y == ("__class__" : Str)) = false := by simpa using hq
          simp [List.lookup, this] at hy
      obtain ⟨rfl, rfl⟩ := this
      exact ⟨hcc, _, _, KX _ _ lcell, rfl⟩
    · have key : ∀ z, ([(("__class__" : Str), cc)] : List (Str × Addr)).lookup z = some c → z = "__class__" := by
        intro z hz
        by_cases hq : z = "__class__"
        · exact hq
        · have : (z == ("__class__" : Str)) = false := by simpa using hq
          simp [List.lookup, this] at hz
      rw [key x hx, key y hy]
    · cases i with
      | zero =>
        simp at hi
        subst hi
        exact ⟨cc, by simp [List.lookup], fun v hv => by simp at hv⟩
      | succ i => simp at hi
  apply codeAny_call_function hr.depth (KX _ _ lk) rfl S.co S.gen rfl (PySem.W.codeRec_of KX T.code)
  apply hbind
  refine wpAny_newFunctionEnv S.nocell (fun ⟨n, _⟩ hy => S.par n (List.of_mem_zip hy).1) (fun h₁ hns hsb => ⟨lim.fresh _ hsb, ?_⟩) S.kind
  show codeAny _ _ (.func F.body (NdefX.envF F fI s.heap.objs.size)) _ _
  have kp : ∀ b o, s.heap.get? b = some o → h₁.get? b = some o := fun b o e => hsb.extBut b o (Nat.ne_of_lt (Heap.lt_size e)) (Heap.get?_push_of_some _ e)
  obtain ⟨a, rv, ta, t, rfl, ha, hpa, hps, hq⟩ := hbody A outer s H vs Q E (hr.deeper _) hsp
  have I : Inv (NdefX.ncx CX P w K mg base N F fI A outer s H E) [] (NdefX.startF N (.ref a :: rv) [none]) H { s with heap := h₁, toks := s.toks + ((("self" : Str) :: ps).zip us).length } := NdefX.inv_startN S hr.hd e0 hl r CA hns kp
  rw [hb]
  apply ks_codeAny_funcAt
  obtain ⟨ar, har, hself⟩ : ∃ ar, (F.params.posonlyargs ++ F.params.args).head? = some ar ∧ ar.arg = "self" := by
    have z := T.fst
    cases q : (F.params.posonlyargs ++ F.params.args).head? with
    | none => rw [q] at z; cases z
    | some ar =>
      rw [q] at z
      exact ⟨ar, rfl, Option.some.inj z⟩
  obtain ⟨nm, qn, CN, bs, bm, sn, sub, ab, col, dd, k0, k1, k2, k3, k5, hC, hbm⟩ := O.cls
  have hcd : PySem.W.clsIn K C = some { name := nm, bases := bs, mro := .ref C :: bm, ns := CN, qualname := qn, hasDict := true, slotNames := sn, subclasses := sub, abstract := ab, collection := col, hasDel := false } := by
    unfold PySem.W.clsIn
    rw [hC] <;> rfl
  obtain ⟨t0, hao⟩ := exo_at I.hok ha
  have K1 : K.In h₁ := KX.keeps kp
  have hCg := K1 _ _ hC
  have hkS : (NdefX.envF F fI s.heap.objs.size).kindOf "super" = some .globalImplicit := T.kS
  have hkC : (NdefX.envF F fI s.heap.objs.size).kindOf "__class__" = some .free := T.kC
  have hsf : (NdefX.envF F fI s.heap.objs.size).kindOf "self" = some .local := S.par "self" (List.mem_cons_self ..)
  have hlook : ∃ u, us = .ref a :: u := by
    cases r with
    | cons r1 r2 => exact ⟨_, by rw [show _ = Value.ref a from r1]⟩
  obtain ⟨ur, rfl⟩ := hlook
  have nd : ((("self" : Str)) :: ps).Nodup := by
    have q := S.nd.sublist (List.take_sublist (((("self" : Str)) :: ps).length + 1) N)
    rw [show ((("self" : Str)) :: ps).length + 1 = ((("self" : Str)) :: ps).length + ([("__class__" : Str)]).length from rfl, S.pre] at q
    exact (List.nodup_append.mp q).1
  have hsv : List.lookup ("self" : Str) (List.zip (("self" : Str) :: ps) (Value.ref a :: ur)).reverse = some (Value.ref a) := NdefX.zip_look (i := 0) (ps := ("self" : Str) :: ps) (us := Value.ref a :: ur) nd rfl rfl
  obtain ⟨mb, hb1, hb2⟩ := I.mod.blt
  refine ks_wpAt_execs_cons (ks_wpAt_Expr_any ?_ (hi _) (hs _))
  obtain ⟨pl, hpl⟩ := hev s.heap.objs.size
  refine ks_wpAt_MethodCall (pl := pl) ?_ hpl
  refine ks_wpAt_super_base (env := NdefX.envF F fI s.heap.objs.size) (ar := ar) hkS hkC rfl rfl (K1 _ _ lk) rfl har rfl (K1 _ _ lrec) rfl hvs hfile T.top ?_
  refine PySem.W.ks_loadName_global S.kind hkS (loadGlobal_builtin (env := NdefX.envF F fI s.heap.objs.size) (I.mod.glob.keeps I.bk) T.glob (hb1.keeps I.bk) ((hb2 "super" (by decide)).trans (show bootBuiltins "super" = some (.type "super") from by rfl)) ⟨rfl, ?_⟩)
  refine wpAny_loadName_free (c := cc) S.kind hkC (by show F.cl.lookup _ = _; rw [T.cl]; simp [List.lookup]) ⟨_, K1 _ _ lcell, rfl⟩ ?_
  rw [hself]
  refine wpAny_loadName_local S.kind hsf hns hsv ?_
  refine ks_wpAny_isType_cls hCg rfl ⟨rfl, ?_⟩
  refine ks_wpAny_call_super hCg rfl hao rfl (fun c e => by cases e) (PySem.W.looks_mroIn K1 T.self) (fun h2 e2 k2 => ?_)
  have I2 : Inv (NdefX.ncx CX P w K mg base N F fI A outer s H E) [] (NdefX.startF N (.ref a :: rv) [none]) H { s with heap := h2, toks := s.toks + ((("self" : Str) :: ps).zip (Value.ref a :: ur)).length } := I.kept k2
  have K2 : K.In h2 := K1.keeps k2
  have J2 : PySem.W.InstAt h2 a { cls := .ref C, dict := none, data := .fields #[.ref t0, .none, .none, .none, .bool false, .none] } C none := ⟨k2 _ _ hao, rfl, rfl, trivial⟩
  have hinit := T.init
  unfold PySem.W.ks_superIn at hinit
  rw [hcd] at hinit
  refine PySem.W.kxs_getMethod PySem.W.kxs_ValueError e2 (PySem.W.looks_opaque K2 T.opq) (l₀ := .ref C :: bm) (fun A Q E s k q => wpAny_bind ((PySem.W.looks_clsIn K2 hcd) A _ E s k (wpAny_pure q))) rfl K2 hinit (J2.type.andThen (PySem.W.looks_subIn K2 T.sub)) (PySem.W.ks_ne K2 J2 hcd) (by decide) ?_
  have kpu : ∀ b o, h2.get? b = some o → (h2.push (PySem.W.kxs_mw "ValueError.__init__" a)).get? b = some o := fun b o e => Heap.get?_push_of_some _ e
  have hu : (h2.push (PySem.W.kxs_mw "ValueError.__init__" a)).get? h2.objs.size = some (PySem.W.kxs_mw "ValueError.__init__" a) := Heap.get?_push_at rfl rfl
  have I3 : Inv (NdefX.ncx CX P w K mg base N F fI A outer s H E) [] (NdefX.startF N (.ref a :: rv) [none]) H { s with heap := h2.push (PySem.W.kxs_mw "ValueError.__init__" a), toks := s.toks + ((("self" : Str) :: ps).zip (Value.ref a :: ur)).length + 1 } := I2.kept kpu
  have I4 : Inv (NdefX.ncx CX P w K mg base N F fI A outer s H E) [(h2.objs.size, PySem.W.kxs_mw "ValueError.__init__" a)] (NdefX.startF N (.ref a :: rv) [none]) H { s with heap := h2.push (PySem.W.kxs_mw "ValueError.__init__" a), toks := s.toks + ((("self" : Str) :: ps).zip (Value.ref a :: ur)).length + 1 } := by
    refine I3.pins_of fun p hp => ?_
    rw [List.mem_singleton.mp hp]
    obtain ⟨oL, _, _, hoL, _⟩ := (show h₁.Ns s.heap.objs.size _ from hns)
    have lt1 := Heap.lt_size (k2 _ _ hoL)
    refine ⟨hu, I2.hok.fresh (Nat.le_refl _), fun z => ?_, fun z => ?_, fun v z => by cases z⟩
    · have z' : h2.objs.size = s.heap.objs.size := z
      rw [z'] at lt1
      exact absurd lt1 (Nat.lt_irrefl _)
    · obtain ⟨_, o', e', _⟩ := e0.funs.mem (show h2.objs.size ∈ frs outer from z)
      exact absurd (Heap.lt_size (k2 _ _ (kp _ _ e'))) (Nat.lt_irrefl _)
  have hrun := hpa.run p3 _ _ _ _ _ I4 hq
  have hes := he s.heap.objs.size
  show wpAny _ _ (callWith p3 (.ref h2.objs.size) [] (backTo p3 (starEach [e1] (NdefX.envF F fI s.heap.objs.size))) []) _ _ _
  have hrun' : wpAny (model P w) (A.deeper (NdefX.envF F fI s.heap.objs.size)) (spliced (backTo p3 (starEach [e1] (NdefX.envF F fI s.heap.objs.size)))) _ _ _ := hrun
  rw [hes] at hrun' ⊢
  refine PySem.W.kxs_callWith (i := "ValueError.__init__") (x := a) (by show (false || (backTo p3 (starEach [] (NdefX.envF F fI s.heap.objs.size))).any (·.1)) = false; rfl) (evalArgs_plain (thn hrun' fun us4 s4 hh => ?_))
  obtain ⟨vs4, H4, J4, r4, hlen4, ha4, ht4⟩ := hh
  obtain ⟨hu4, _⟩ := J4.pin _ (List.mem_append_right _ (List.mem_singleton.mpr rfl))
  refine ⟨hu4, ?_⟩
  show wpAny _ _ (call (.ref h2.objs.size) us4) _ _ _
  have J5 : Inv (NdefX.ncx CX P w K mg base N F fI A outer s H E) [] (NdefX.startF N (.ref a :: rv) [none]) H4 s4 := J4.pins_of fun p hp => (nomatch hp)
  obtain ⟨t4, hao4⟩ := exo_at J5.hok ha4
  have hl4 : us4.length ≤ sizeLine := by
    rw [← Paired.length r4, sizeLine_eq]
    omega
  obtain ⟨hp4, g4, d4, tk4, os4⟩ := s4
  refine Ex.call_mw (J5.kIn _ _ hC) hao4 hu4 hl4 fun h6 t6 k6 e6 => ?_
  have J6 := J5.write (t' := tk4) (x := a) (e := a) (o := exo a C none) (by rw [ha4]; exact True.intro) (.inl rfl) k6 ⟨_, e6⟩ (exo_ok e6)
  have eu : upd H4 a (exo a C none) = H4 := by
    funext b
    by_cases hb : b = a
    · rw [hb, upd_same, ha4]
    · rw [upd_ne hb]
  rw [eu] at J6
  apply wpAt_of_wpAny
  have fin : ∀ {σ' : L2.St} {H' : Hp} {v : V} {u : Value} {s'}, Inv (NdefX.ncx CX P w K mg base N F fI A outer s H E) [] σ' H' s' → RelV v u → Q v H' → CE outer P w H s Q u s' :=
    fun {σ' H' v u s'} J rv q => ⟨v, H', J.os, J.bare, J.base, J.hok, rv, q⟩
  refine wpAny_mono (hps.run [] _ _ H4 _ J6 ht4) (fun fl s' hs => ?_) fun e s' hs => hs
  cases fl with
  | ret u =>
    obtain ⟨v, σ', H', J, rv, q⟩ := hs
    exact fin J rv q
  | next =>
    obtain ⟨σ', H', J, q⟩ := hs
    exact fin (v := V.non) (u := Value.none) J rfl q
  | brk =>
    obtain ⟨_, _, _, q⟩ := hs
    exact False.elim q
  | cont =>
    obtain ⟨_, _, _, q⟩ := hs
    exact False.elim q
end
end Os
end
section
set_option linter.all false
set_option maxRecDepth 100000
set_option maxHeartbeats 4000000
/-! OxC: a def that may raise, where no repr runs. -/
namespace Os
open PySem PySem.Spec PySem.Calls PyProof.Rows L2
/-- statements that are never reached -/
def tDead : TS := fun _ _ _ => False
theorem pss_dead {X : Cx} {l : List Stmt} : PSs X l tDead := ⟨fun _ _ _ _ _ _ z => False.elim z⟩
theorem ps_dead {X : Cx} {l : Stmt} : PS X l tDead := ⟨fun _ _ _ _ _ _ z => False.elim z⟩
structure FnXG (P : Program) (w : World) (K : PySem.W.Frag) (mg : Str → Option Value) (base : Heap) (k : Nat) (f : Addr) (fd : FuncData) (ps : List Str) (sp : Sp) : Prop where
  size : ∀ vs H Q E, sp vs H Q E → vs.length = ps.length
  go : ∀ (A : Around) (outer : List Env) (s : Shared) (H : Hp) (args : Args) (us : List Value) (vs : List V) (Q : VK) (E : XK), RoomG k A → Env0 P w K mg base A outer s H → BindsTo s fd args (ps.zip us) → Vals vs us → sp vs H Q E →
    codeAny (model P w) A (.call (.ref f) args) (CR (L2.CX P w) outer P w H s Q E) s
section
variable {P : Program} {w : World} {K : PySem.W.Frag} {mg : Str → Option Value} {base : Heap} {k : Nat} {f : Addr} {x qual : Str} {st : Stmt} {fd : FuncData} {N ps : List Str} {sp : Sp}
theorem fnX_body (Fd : Fun K x qual st f fd) (S : FnScope N ps (defScope st)) (hlen : ∀ vs H Q E, sp vs H Q E → vs.length = ps.length)
    (hb : ∀ (cdv : Value) (A : Around) (outer : List Env) (s : Shared) (H : Hp) (vs : List V) (Q : VK) (E : XK), RoomG k (A.deeper (envOfC qual (defScope st) s.heap.objs.size f cdv)) → sp vs H Q E →
      ∃ t, PSs (cxOf (L2.CX P w) P w K mg base N qual (defScope st) f cdv A outer s H E) (defBody st) t ∧ t { nx := fun _ H' => Q .non H', rt := Q } (L2.start N vs) H) : FnXG P w K mg base (k + 1) f fd ps sp := by
  obtain ⟨oc, od, kV, doc, pm, an, cdv, ct, osl, rfl, lk, hcd⟩ := Fd.ex
  constructor
  · exact hlen
  intro A outer s H as us vs Q E room env0 hbind hvals hsp
  have hn := hlen vs H Q E hsp
  have kin : K.In s.heap := env0.mod.kin.keeps fun b o e => (env0.bs b o e).1
  have nolim : s.heap.NoLimit := env0.mod.nolimit.keeps fun b o e => (env0.bs b o e).1
  have kinds : ∀ y ∈ ps.zip us, (defScope st).names.lookup y.1 = some .local ∨ ((defScope st).names.lookup y.1 = some .cell ∧ ((cellsFrom (s.heap.objs.size + 1) (defScope st).names []).lookup y.1).isSome = true) := by
    intro y hy
    obtain ⟨n, v⟩ := y
    cases S.par n (List.of_mem_zip hy).1 with
    | inl q => left; exact q
    | inr q => right; exact And.intro q (PySem.W.cellsFrom_some _ _ _ (Or.inl q))
  apply codeAny_call_function room.r.depth (kin _ _ lk) rfl S.co S.gen rfl (PySem.W.codeRec_of kin hcd)
  apply hbind
  apply wpAny_newFunctionEnv_cells S.kind kinds
  intro env he s1 enter
  subst he
  constructor
  · exact nolim.keeps enter.toInCall.keep
  apply codeAny_func
  obtain ⟨t, ht, hq⟩ := hb cdv A outer s H vs Q E (room.deeper _) hsp
  have I0 : Inv (cxOf (L2.CX P w) P w K mg base N qual (defScope st) f cdv A outer s H E) [] (L2.start N vs) H s1 := inv_start S room.r.hd env0 hn hvals enter
  apply wpAny_mono (ht.run [] s1 (L2.start N vs) H _ I0 hq)
  · intro flow s' hflow
    have back : ∀ {σ' : L2.St} {H' : Hp} {v : V} {u : Value}, Inv (cxOf (L2.CX P w) P w K mg base N qual (defScope st) f cdv A outer s H E) [] σ' H' s' → RelV v u → Q v H' → CE outer P w H s Q u s' := by
      intro σ' H' v u J hr hQ
      exact Exists.intro v (Exists.intro H' (And.intro J.os (And.intro J.bare (And.intro J.base (And.intro J.hok (And.intro hr hQ))))))
    cases flow with
    | ret u => obtain ⟨v, σ', H', J, hr, hQ⟩ := hflow; exact back J hr hQ
    | next => obtain ⟨σ', H', J, hQ⟩ := hflow; exact back (v := V.non) (u := Value.none) J rfl hQ
    | brk => obtain ⟨_, _, _, z⟩ := hflow; exact z.elim
    | cont => obtain ⟨_, _, _, z⟩ := hflow; exact z.elim
  · intro e s' z
    exact z
end
section
variable {X : Cx} {k : Nat} {f : Addr} {fd : FuncData} {ps : List Str} {sp : Sp} {E : L2.St → XK} {x : Str} {p pos : Pos} {e : Expr} {es : List Expr} {t : TA}
theorem pe_callX (F : FnXG X.prog X.w X.K X.mg X.base k f fd ps sp) (hr : RoomG k X.A) (hg : Gl X x) (hm : X.mg x = some (.ref f)) (hk : PySem.W.keepIn X.K (.ref f) = true) (hb : Binds X.K fd ps []) (hx : ∀ σ, PassesAt (L2.CX X.prog X.w) X σ (E σ))
    (ha : PA X (e :: es) t) (hdb : (x == ("__debug__" : Str)) = false := by decide) (he : starEach (e :: es) X.env = (false, eval e X.env) :: starEach es X.env := by rfl) (hpl : (backTo pos (starEach es X.env)).any (·.1) = false := by rfl) :
    PE X (.Call (.Name x p) (e :: es) [] pos) (tCallS sp E t) := by
  constructor
  intro pins s σ H Q I h
  apply wpAny_Call_Name_kw (ld_glob I hg hm ?_ hdb)
  refine PySem.W.callWith_K (h₀ := X.base) I.ok.mod.kin hk (thn (ha.run pos pins s σ H _ I h) fun us s1 ⟨vs, H1, I1, r, q⟩ => ⟨I1.kIn, ?_⟩) he hpl
  have hl : us.length = ps.length := by
    rw [← r.length]
    exact F.size _ _ _ _ q
  have b := hb s1 us I1.kIn (by rw [List.append_nil]; exact hl)
  rw [List.append_nil] at b
  show wpAny _ _ (call (.ref f) us) _ _ _
  apply wpAny_call
  refine codeAny_mono (F.go X.A X.stack s1 H1 ⟨us, []⟩ us vs Q (E σ) hr I1.env0 b r q) fun r2 s2 hq => ?_
  cases r2 with
  | error e => exact hx σ pins H1 s1 e s2 I1 hq
  | ok fl =>
    cases fl with
    | ret u => exact I1.after hq
    | next => exact False.elim hq
    | brk => exact False.elim hq
    | cont => exact False.elim hq
end
/-- an int is itself -/
def spInt : Sp := fun vs H Q _ => ∃ n : Int, vs = [.int n] ∧ Q (.int n) H
end Os
end
section
set_option linter.all false
set_option maxRecDepth 100000
set_option maxHeartbeats 2000000
/-! OxD: the law's call, where no repr runs. -/
namespace Os
open PySem PySem.Spec PyProof.Rows L2
/-- what the law's call must leave -/
def LawEnd (s₁ : Shared) (r : Result) (s' : Shared) : Prop := r = .ok (.ret (.bool true)) ∧ OldK s₁.heap s'.heap ∧ s'.os = s₁.os ∧ AllBare s'.gens
section
variable {P : Program} {w : World} {K : PySem.W.Frag} {mg mb : Str → Option Value} {k : Nat} {fa a : Addr} {fd : FuncData} {x : Str} {sp : Sp} {s₁ : Shared} {H : Hp}
theorem law_left {r : Result} {s' : Shared} {E : XK} (only : Only H) (hok : HOk P w H s₁.heap) (h : CR CX0 [] P w H s₁ (fun v _ => v = .bl true) E r s') : LawEnd s₁ r s' := by
  match r, h with
  | .ok (.ret u), h =>
    obtain ⟨v, H', o1, o2, un, ok2, rv, q⟩ := h
    cases (show v = .bl true from q)
    cases (show u = Value.bool true from rv)
    constructor
    · rfl
    constructor
    · apply OldK.of_keep
      intro b o e
      cases z : H b with
      | none => exact un.keep b o e z (fun z => nomatch z) (fun z => nomatch z)
      | some u =>
        cases only b with
        | inl n =>
          rw [n] at z
          cases z
        | inr t =>
          obtain ⟨ob, xs, t⟩ := t
          have g1 := (hok b _ t).1
          have g2 := (ok2 b _ (un.frzs b ob _ t)).1
          rw [e] at g1
          cases g1
          exact g2
    · exact ⟨o1, o2⟩
/-- from an abstract heap in which nothing but the script may be tracked -/
theorem law_base (only : Only H) (hok : HOk P w H s₁.heap) (own : ∀ b, H b ≠ none → b = a ∧ K.lookup a = none) (KX : K.In s₁.heap) (hns : s₁.heap.Ns mainGlobals mg) (hb : s₁.heap.Ns builtinsNs mb) (hbb : ∀ x : Str, x ≠ "__name__" → mb x = bootBuiltins x) (hlim : s₁.heap.NoLimit) (hg : s₁.gens = #[])
    {vs : List Value} (ha : s₁.heap.get? a = some { cls := .type "list", data := .seq vs.toArray }) (hr : RoomG k callerA) (F : ∀ base : Heap, K.In base → base.Ns mainGlobals mg → FnG P w K mg base k fa fd [x] sp)
    (hbind : ∀ (s : Shared) (u : Value), BindsTo s fd ⟨[u], []⟩ [(x, u)]) (hsp : sp [.ref a] H (fun v _ => v = .bl true) fun _ _ _ => False) : codeAny (model P w) callerA (.call (.ref fa) ⟨[.ref a], []⟩) (LawEnd s₁) s₁ := by
  have free : ∀ {b : Addr}, b ≠ a → H b = none := by
    intro b hb
    cases q : H b with
    | none => rfl
    | some u => exact absurd (own b (by rw [q]; simp)).1 hb
  have dictFree : ∀ {b : Addr} {o : Obj} {es : Array DictEntry} {ep : Nat}, s₁.heap.get? b = some o → o.data = .dict es ep → H b = none := by
    intro b o es ep e d
    apply free
    intro z
    rw [z, ha] at e
    cases e
    cases (show Data.seq vs.toArray _ = Data.dict es ep from d)
  have names : ∀ {b : Addr} {m : Str → Option Value}, s₁.heap.Ns b m → (hidT s₁.heap H).Ns b m := by
    intro b m hn
    obtain ⟨o, es, ep, e, d, r⟩ := hn
    exact ⟨o, es, ep, hidT_get e (dictFree e d), d, r⟩
  have inK : K.In (hidT s₁.heap H) := by
    intro b o e
    apply hidT_get (KX b o e)
    cases q : H b with
    | none => rfl
    | some u =>
      obtain ⟨z, n⟩ := own b (by rw [q]; simp)
      rw [z, n] at e
      cases e
  obtain ⟨mc, l1, l2⟩ := hlim
  have M : Mod K mg (hidT s₁.heap H) := { kin := inK, glob := names hns, blt := ⟨mb, names hb, hbb⟩, nolimit := ⟨mc, names l1, l2⟩ }
  have e0 : Env0 P w K mg (hidT s₁.heap H) callerA [] s₁ H := { frames := rfl, mod := M, bs := fun b o e => of_hidT e, bsz := Nat.le_of_eq (hidT_size _ _), funs := trivial, frf := fun b z => (nomatch z), hok := hok, bare := .of_eq hg }
  exact codeAny_mono ((F _ inK (names hns)).go callerA [] s₁ H ⟨[.ref a], []⟩ [.ref a] [.ref a] _ _ hr e0 (hbind s₁ (.ref a)) (.cons rfl .nil) hsp) fun r s' h => law_left only hok h
theorem law_callG {vs : List Value} {ns : List Int} (KX : K.In s₁.heap) (hns : s₁.heap.Ns mainGlobals mg) (hb : s₁.heap.Ns builtinsNs mb) (hbb : ∀ x : Str, x ≠ "__name__" → mb x = bootBuiltins x) (hlim : s₁.heap.NoLimit) (hg : s₁.gens = #[])
    (ha : s₁.heap.get? a = some { cls := .type "list", data := .seq vs.toArray }) (hi : IntsAre vs ns) (hl : ns.length ≤ sizeLine) (hr : RoomG k callerA) (F : ∀ base : Heap, K.In base → base.Ns mainGlobals mg → FnG P w K mg base k fa fd [x] sp)
    (hbind : ∀ (s : Shared) (u : Value), BindsTo s fd ⟨[u], []⟩ [(x, u)]) (hsp : ∀ H : Hp, Only H → SqL K H a (ns.map V.int) → sp [.ref a] H (fun v _ => v = .bl true) fun _ _ _ => False) : codeAny (model P w) callerA (.call (.ref fa) ⟨[.ref a], []⟩) (LawEnd s₁) s₁ := by
  have rel := vals_ints hi
  cases hk : K.lookup a with
  | some o =>
    have e := KX a o hk
    rw [ha] at e
    cases e
    have only : Only (fun _ => none) := fun _ => .inl rfl
    refine law_base (H := fun _ => none) only (fun b u z => ?_) (fun b z => absurd rfl z) KX hns hb hbb hlim hg ha hr F hbind (hsp _ only (.inr ⟨_, vs.toArray, _, hk, rfl, rfl, rfl, ?_, by simpa using rel⟩))
    · cases (show (none : Option HO) = some u from z)
    · rw [List.size_toArray, hi.length]
      exact hl
  | none =>
    have one : ∀ b, (fun b => if b = a then some (HO.frz { cls := .type "list", data := .seq vs.toArray } (.lst (ns.map V.int))) else none : Hp) b ≠ none → b = a := by
      intro b z
      by_cases hb : b = a
      · exact hb
      · exact absurd (if_neg hb) z
    have only : Only (fun b => if b = a then some (HO.frz { cls := .type "list", data := .seq vs.toArray } (.lst (ns.map V.int))) else none) := by
      intro b
      by_cases hb : b = a
      · right
        exact ⟨_, _, if_pos hb⟩
      · left
        exact if_neg hb
    refine law_base (H := fun b => if b = a then some (.frz { cls := .type "list", data := .seq vs.toArray } (.lst (ns.map V.int))) else none) only (fun b u z => ?_) (fun b z => ⟨one b z, hk⟩) KX hns hb hbb hlim hg ha hr F hbind (hsp _ only (.inl (.inr ⟨{ cls := .type "list", data := .seq vs.toArray }, if_pos rfl⟩)))
    have hb2 : b = a := one b (fun e => by rw [e] at z; cases z)
    subst hb2
    have z2 := (if_pos rfl).symm.trans z
    cases z2
    exact ⟨ha, by rw [List.length_map]; exact hl, vs, _, rel, ha⟩
end
/-- the goal that the head leaves -/
theorem walkG {l : PySem.W.OpenLaw} {n k : Nat} {q : Program} {loose : List Str} {XP : (Str → Option Value) → Heap → Prop} {YP : World → Heap → Prop} {d : DefRec} {K : Params → PySem.W.Frag} {sp : PySem.W.Frag → Sp} {x : Str}
    (hn : l.most = some n) (hn2 : n ≤ sizeLine) (hdf : d.params.defaults = []) (hr : RoomG k callerA) (hY : ∀ (w : World) (h : Heap), YP w h → (K w.params).In h)
    (F : ∀ (w : World) (mg : Str → Option Value) (fa : Addr) (h : Heap), (K w.params).In h → h.Ns mainGlobals mg → mg d.name = some (.ref fa) →
      ∃ fd : FuncData, (∀ (s : Shared) (u : Value), BindsTo s fd ⟨[u], []⟩ [(x, u)]) ∧ ∀ base : Heap, (K w.params).In base → base.Ns mainGlobals mg → FnG l.prog w (K w.params) mg base k fa fd [x] (sp (K w.params)))
    (hsp : ∀ (K : PySem.W.Frag) (H : Hp) (a : Addr) (ns : List Int), ns.length ≤ n → Only H → SqL K H a (ns.map V.int) → sp K [.ref a] H (fun v _ => v = .bl true) fun _ _ _ => False) :
    PySem.W.WalkO q loose XP YP l.row.toRowW d [] (fun f vs => PySem.call f vs) := by
  apply Att.attach_call hn hdf
  intro w s₀ s₁ mg mb fa o pm cd doc a vs ns G Y ho hd hcd hmg hobj hints hlen hg
  obtain ⟨fd, hb, hF⟩ := F w mg fa _ (hY w _ Y) G.T.g hmg
  exact law_callG (hY w _ Y) G.T.g G.T.b G.T.builtins G.T.nolimit hg hobj hints (Nat.le_trans hlen hn2) hr hF hb fun H only sq => hsp _ H a ns hlen only sq
end Os
end
section
set_option linter.all false
set_option maxRecDepth 100000
set_option maxHeartbeats 4000000
namespace Os
open PySem PySem.Spec PyProof.Rows L2
/-- come refuses: then the one number -/
def barredF : FE := ⟨"_law_barred", 4, fun as s => match as with
  | [.d w, .d _, .d ch, .d (.int n)] => match w with
    | .tuple [m, .tuple cs] => if (dEq m (.int n) = some false ∨ (dEq m (.int n) = some true ∧ dIn ch (.tuple cs) = some true)) then some (.list [.int n], s) else none
    | _ => none
  | _ => none, false⟩
/-! the text by places -/
def tp (i : Nat) : Stmt := PySem.Challenge.pw_oncestream_k19_barriers_and_channels.main.body.getD i (.Pass ⟨0, 0, 0, 0⟩)
abbrev t_copied : Stmt := tp 1
abbrev t_come : Stmt := tp 5
abbrev t_is_held : Stmt := tp 6
abbrev t_free_channels : Stmt := tp 7
abbrev t_numbers_left : Stmt := tp 8
abbrev t_place_of : Stmt := tp 9
abbrev t_before : Stmt := tp 10
abbrev t_behind : Stmt := tp 11
abbrev t_numbers_in : Stmt := tp 12
abbrev t_judge_channel : Stmt := tp 13
abbrev t_w_open_cells : Stmt := tp 15
abbrev t_w_pick : Stmt := tp 16
abbrev t_w_any_order : Stmt := tp 17
abbrev t_w_draw_value : Stmt := tp 18
abbrev t_w_draw_things : Stmt := tp 19
abbrev t_w_barred : Stmt := tp 20
abbrev t_w_waiting_right : Stmt := tp 21
abbrev t_w_fault : Stmt := tp 22
abbrev t_w_things_right : Stmt := tp 23
abbrev t_law : Stmt := tp 24
def gkL : List (Str × D) := []
def F_00 : List FE := []
/-! copied -/
def N_copied : List Str := ["value", "one", "key"]
/-! come -/
def N_come : List Str := ["waiting", "channels", "channel", "n", "number", "those"]
def M_come : MSs := (.cons (.unp (.two (.nm 4) (.nm 5)) .f (.ite (.isN (.nm 0)) (.tup (.cons (.nm 3) (.cons (.tup .nil) .nil))) (.nm 0))) (.cons (.ite (.or_ (.cmp .ne (.nm 4) (.nm 3)) (.cmp .isin (.nm 2) (.nm 5))) (.cons .bad .nil) .nil) (.cons (.set 5 .f (.b1 .tuple (.b1 .sorted (.lst (.star (.nm 5) (.cons (.nm 2) .nil)))))) (.cons (.ite (.cmp .eq (.b1 .len (.nm 5)) (.b1 .len (.nm 1))) (.cons (.ret (.tup (.cons (.k .none) (.cons (.k (.bool true)) .nil)))) .nil) .nil) (.cons (.ret (.tup (.cons (.tup (.cons (.nm 3) (.cons (.nm 5) .nil))) (.cons (.k (.bool false)) .nil)))) .nil)))))
theorem T_come : TrSs F_00 gkL N_come (defScope t_come) (defBody t_come) M_come := (.cons (.unp .f (.two (.nm rfl (.inl (by decide +kernel)) (.inl rfl)) (.nm rfl (.inl (by decide +kernel)) (.inl rfl))) (.ite (.isN (.nm rfl (.inl (by decide +kernel)) (by decide +kernel) (by decide +kernel))) (.tup (.cons (.nm rfl (.inl (by decide +kernel)) (by decide +kernel) (by decide +kernel)) (.cons (.tup .nil) .nil))) (.nm rfl (.inl (by decide +kernel)) (by decide +kernel) (by decide +kernel))) (fun _ => rfl) (fun _ => rfl)) (.cons (.ite (.bo (o := .Or) (.cons (.cmp .ne (.nm rfl (.inl (by decide +kernel)) (by decide +kernel) (by decide +kernel)) (.nm rfl (.inl (by decide +kernel)) (by decide +kernel) (by decide +kernel)) rfl) (.one (.cmp .isin (.nm rfl (.inl (by decide +kernel)) (by decide +kernel) (by decide +kernel)) (.nm rfl (.inl (by decide +kernel)) (by decide +kernel) (by decide +kernel)) rfl)))) (.cons .bad .nil) .nil) (.cons (.set .f rfl (.inl (by decide +kernel)) (.b1 .tuple (by decide +kernel) (.b1 .sorted (by decide +kernel) (.lst (.star (.nm rfl (.inl (by decide +kernel)) (by decide +kernel) (by decide +kernel)) (.cons (.nm rfl (.inl (by decide +kernel)) (by decide +kernel) (by decide +kernel)) .nil))))) (fun _ => rfl)) (.cons (.ite (.cmp .eq (.b1 .len (by decide +kernel) (.nm rfl (.inl (by decide +kernel)) (by decide +kernel) (by decide +kernel))) (.b1 .len (by decide +kernel) (.nm rfl (.inl (by decide +kernel)) (by decide +kernel) (by decide +kernel))) rfl) (.cons (.ret (.tup (.cons .cn (.cons .cb .nil)))) .nil) .nil) (.cons (.ret (.tup (.cons (.tup (.cons (.nm rfl (.inl (by decide +kernel)) (by decide +kernel) (by decide +kernel)) (.cons (.nm rfl (.inl (by decide +kernel)) (by decide +kernel) (by decide +kernel)) .nil))) (.cons .cb .nil)))) .nil)))))
def E_come : FE := ⟨"come", 4, semOf F_00 false 6 M_come, false⟩
theorem S_come : FnScope N_come ["waiting", "channels", "channel", "n"] (defScope t_come) := ⟨rfl, rfl, rfl, by decide +kernel, rfl, by decide +kernel, by decide +kernel⟩
def F_01 : List FE := F_00 ++ [E_come]
theorem A_come : E_come.ar = 4 := rfl
/-! is_held -/
def N_is_held : List Str := ["waiting", "channel"]
def M_is_held : MSs := (.cons (.ret (.and_ (.notN (.nm 0)) (.cmp .isin (.nm 1) (.idx (.nm 0) (.k (.int 1)))))) .nil)
theorem T_is_held : TrSs F_01 gkL N_is_held (defScope t_is_held) (defBody t_is_held) M_is_held := (.cons (.ret (.bo (o := .And) (.cons (.notN (.nm rfl (.inl (by decide +kernel)) (by decide +kernel) (by decide +kernel))) (.one (.cmp .isin (.nm rfl (.inl (by decide +kernel)) (by decide +kernel) (by decide +kernel)) (.idx (.nm rfl (.inl (by decide +kernel)) (by decide +kernel) (by decide +kernel)) .ci (fun _ _ => rfl)) rfl))))) .nil)
def E_is_held : FE := ⟨"is_held", 2, semOf F_01 false 2 M_is_held, false⟩
theorem S_is_held : FnScope N_is_held ["waiting", "channel"] (defScope t_is_held) := ⟨rfl, rfl, rfl, by decide +kernel, rfl, by decide +kernel, by decide +kernel⟩
def F_02 : List FE := F_01 ++ [E_is_held]
theorem A_is_held : E_is_held.ar = 2 := rfl
/-! free_channels -/
def N_free_channels : List Str := ["waiting", "channels", "channel"]
def M_free_channels : MSs := (.cons (.ret (.comp (.nm 2) (.nm 2) (.seq (.nm 1)) (.cons (.not_ (.call 1 (.cons (.nm 0) (.cons (.nm 2) .nil)))) .nil) [2])) .nil)
theorem T_free_channels : TrSs F_02 gkL N_free_channels (defScope t_free_channels) (defBody t_free_channels) M_free_channels := (.cons (.ret (.comp (own := [("channel", 2)]) (by decide +kernel) (.nm rfl (.inl (by decide +kernel)) (.inr (by decide +kernel))) (by decide +kernel) (.seq (.nm rfl (.inl (by decide +kernel)) (by decide +kernel) (by decide +kernel))) (.one (.not_ (.call 1 (by decide +kernel) rfl rfl (by decide +kernel) (.cons (.nm rfl (.inr (.inl (by decide +kernel))) (by decide +kernel) (by decide +kernel)) (.cons (.nm rfl (.inl (by decide +kernel)) (by decide +kernel) (by decide +kernel)) .nil))))) (.nm rfl (.inl (by decide +kernel)) (by decide +kernel) (by decide +kernel)) (fun _ _ => rfl))) .nil)
def E_free_channels : FE := ⟨"free_channels", 2, semOf F_02 true 3 M_free_channels, true⟩
theorem S_free_channels : FnScope N_free_channels ["waiting", "channels"] (defScope t_free_channels) := ⟨rfl, rfl, rfl, by decide +kernel, rfl, by decide +kernel, by decide +kernel⟩
def F_03 : List FE := F_02 ++ [E_free_channels]
theorem A_free_channels : E_free_channels.ar = 2 := rfl
/-! numbers_left -/
def N_numbers_left : List Str := ["waiting", "channels"]
def M_numbers_left : MSs := (.cons (.ret (.ite (.isN (.nm 0)) (.lst .nil) (.call 2 (.cons (.nm 0) (.cons (.nm 1) .nil))))) .nil)
theorem T_numbers_left : TrSs F_03 gkL N_numbers_left (defScope t_numbers_left) (defBody t_numbers_left) M_numbers_left := (.cons (.ret (.ite (.isN (.nm rfl (.inl (by decide +kernel)) (by decide +kernel) (by decide +kernel))) (.lst .nil) (.call 2 (by decide +kernel) rfl rfl (by decide +kernel) (.cons (.nm rfl (.inl (by decide +kernel)) (by decide +kernel) (by decide +kernel)) (.cons (.nm rfl (.inl (by decide +kernel)) (by decide +kernel) (by decide +kernel)) .nil))))) .nil)
def E_numbers_left : FE := ⟨"numbers_left", 2, semOf F_03 true 2 M_numbers_left, true⟩
theorem S_numbers_left : FnScope N_numbers_left ["waiting", "channels"] (defScope t_numbers_left) := ⟨rfl, rfl, rfl, by decide +kernel, rfl, by decide +kernel, by decide +kernel⟩
def F_04 : List FE := F_03 ++ [E_numbers_left]
theorem A_numbers_left : E_numbers_left.ar = 2 := rfl
/-! place_of -/
def N_place_of : List Str := ["things", "n"]
def M_place_of : MSs := (.cons (.ret (.ite (.cmp .isin (.tup (.cons (.k (.str "barrier")) (.cons (.nm 1) .nil))) (.nm 0)) (.index (.nm 0) (.tup (.cons (.k (.str "barrier")) (.cons (.nm 1) .nil)))) (.b1 .len (.nm 0)))) .nil)
theorem T_place_of : TrSs F_04 gkL N_place_of (defScope t_place_of) (defBody t_place_of) M_place_of := (.cons (.ret (.ite (.cmp .isin (.tup (.cons .cs (.cons (.nm rfl (.inl (by decide +kernel)) (by decide +kernel) (by decide +kernel)) .nil))) (.nm rfl (.inl (by decide +kernel)) (by decide +kernel) (by decide +kernel)) rfl) (.index (.nm rfl (.inl (by decide +kernel)) (by decide +kernel) (by decide +kernel)) (.tup (.cons .cs (.cons (.nm rfl (.inl (by decide +kernel)) (by decide +kernel) (by decide +kernel)) .nil))) (fun _ => rfl) rfl) (.b1 .len (by decide +kernel) (.nm rfl (.inl (by decide +kernel)) (by decide +kernel) (by decide +kernel))))) .nil)
def E_place_of : FE := ⟨"place_of", 2, semOf F_04 false 2 M_place_of, false⟩
theorem S_place_of : FnScope N_place_of ["things", "n"] (defScope t_place_of) := ⟨rfl, rfl, rfl, by decide +kernel, rfl, by decide +kernel, by decide +kernel⟩
def F_05 : List FE := F_04 ++ [E_place_of]
theorem A_place_of : E_place_of.ar = 2 := rfl
/-! before -/
def N_before : List Str := ["things", "n"]
def M_before : MSs := (.cons (.ret (.slc (.nm 0) .no (.yes (.call 4 (.cons (.nm 0) (.cons (.nm 1) .nil)))))) .nil)
theorem T_before : TrSs F_05 gkL N_before (defScope t_before) (defBody t_before) M_before := (.cons (.ret (.slc (.nm rfl (.inl (by decide +kernel)) (by decide +kernel) (by decide +kernel)) .no (.yes (.call 4 (by decide +kernel) rfl rfl (by decide +kernel) (.cons (.nm rfl (.inl (by decide +kernel)) (by decide +kernel) (by decide +kernel)) (.cons (.nm rfl (.inl (by decide +kernel)) (by decide +kernel) (by decide +kernel)) .nil)))))) .nil)
def E_before : FE := ⟨"before", 2, semOf F_05 false 2 M_before, false⟩
theorem S_before : FnScope N_before ["things", "n"] (defScope t_before) := ⟨rfl, rfl, rfl, by decide +kernel, rfl, by decide +kernel, by decide +kernel⟩
def F_06 : List FE := F_05 ++ [E_before]
theorem A_before : E_before.ar = 2 := rfl
/-! behind -/
def N_behind : List Str := ["things", "n"]
def M_behind : MSs := (.cons (.ret (.slc (.nm 0) (.yes (.op .add (.call 4 (.cons (.nm 0) (.cons (.nm 1) .nil))) (.k (.int 1)))) .no)) .nil)
theorem T_behind : TrSs F_06 gkL N_behind (defScope t_behind) (defBody t_behind) M_behind := (.cons (.ret (.slc (.nm rfl (.inl (by decide +kernel)) (by decide +kernel) (by decide +kernel)) (.yes (.op .add (.call 4 (by decide +kernel) rfl rfl (by decide +kernel) (.cons (.nm rfl (.inl (by decide +kernel)) (by decide +kernel) (by decide +kernel)) (.cons (.nm rfl (.inl (by decide +kernel)) (by decide +kernel) (by decide +kernel)) .nil))) .ci)) .no)) .nil)
def E_behind : FE := ⟨"behind", 2, semOf F_06 false 2 M_behind, false⟩
theorem S_behind : FnScope N_behind ["things", "n"] (defScope t_behind) := ⟨rfl, rfl, rfl, by decide +kernel, rfl, by decide +kernel, by decide +kernel⟩
def F_07 : List FE := F_06 ++ [E_behind]
theorem A_behind : E_behind.ar = 2 := rfl
/-! numbers_in -/
def N_numbers_in : List Str := ["things", "word", "told"]
def M_numbers_in : MSs := (.cons (.ret (.b1 .tuple (.comp (.nm 2) (.two (.nm 1) (.nm 2)) (.seq (.nm 0)) (.cons (.cmp .eq (.nm 1) (.k (.str "barrier"))) .nil) [1, 2]))) .nil)
theorem T_numbers_in : TrSs F_07 gkL N_numbers_in (defScope t_numbers_in) (defBody t_numbers_in) M_numbers_in := (.cons (.ret (.b1 .tuple (by decide +kernel) (.comp (own := [("word", 1), ("told", 2)]) (by decide +kernel) (.two (.nm rfl (.inl (by decide +kernel)) (.inr (by decide +kernel))) (.nm rfl (.inl (by decide +kernel)) (.inr (by decide +kernel)))) (by decide +kernel) (.seq (.nm rfl (.inl (by decide +kernel)) (by decide +kernel) (by decide +kernel))) (.one (.cmp .eq (.nm rfl (.inl (by decide +kernel)) (by decide +kernel) (by decide +kernel)) .cs rfl)) (.nm rfl (.inl (by decide +kernel)) (by decide +kernel) (by decide +kernel)) (fun _ _ => rfl)))) .nil)
def E_numbers_in : FE := ⟨"numbers_in", 1, semOf F_07 false 3 M_numbers_in, false⟩
theorem S_numbers_in : FnScope N_numbers_in ["things"] (defScope t_numbers_in) := ⟨rfl, rfl, rfl, by decide +kernel, rfl, by decide +kernel, by decide +kernel⟩
def F_08 : List FE := F_07 ++ [E_numbers_in]
theorem A_numbers_in : E_numbers_in.ar = 1 := rfl
/-! judge_channel -/
def N_judge_channel : List Str := ["things", "mark", "last", "k", "word", "told"]
def M_judge_channel_1 : MSs := (.cons (.ite (.or_ (.and_ (.cmp .eq (.nm 4) (.k (.str "row"))) (.cmp .lt (.idx (.nm 5) (.k (.int 0))) (.nm 1))) (.or_ (.and_ (.cmp .eq (.nm 4) (.k (.str "mark"))) (.cmp .lt (.nm 5) (.nm 1))) (.and_ (.cmp .eq (.nm 4) (.k (.str "barrier"))) (.cmp .le (.nm 5) (.nm 2))))) (.cons (.ret (.tup (.cons (.nm 4) (.cons (.nm 3) .nil)))) .nil) .nil) (.cons (.set 1 .f (.ite (.cmp .eq (.nm 4) (.k (.str "mark"))) (.nm 5) (.nm 1))) (.cons (.set 2 .f (.ite (.cmp .eq (.nm 4) (.k (.str "barrier"))) (.nm 5) (.nm 2))) .nil)))
def M_judge_channel : MSs := (.cons (.set 2 .f (.k (.int 0))) (.cons (.for_ (.two (.nm 3) (.two (.nm 4) (.nm 5))) (.enum (.nm 0)) M_judge_channel_1) (.cons (.ret (.k .none)) .nil)))
theorem T_judge_channel : TrSs F_08 gkL N_judge_channel (defScope t_judge_channel) (defBody t_judge_channel) M_judge_channel := (.cons (.set .f rfl (.inl (by decide +kernel)) .ci (fun _ => rfl)) (.cons (.for_ (.two (.nm rfl (.inl (by decide +kernel)) (.inl rfl)) (.two (.nm rfl (.inl (by decide +kernel)) (.inl rfl)) (.nm rfl (.inl (by decide +kernel)) (.inl rfl)))) (.enum (by decide +kernel) (.nm rfl (.inl (by decide +kernel)) (by decide +kernel) (by decide +kernel))) (.cons (.ite (.bo (o := .Or) (.cons (.bo (o := .And) (.cons (.cmp .eq (.nm rfl (.inl (by decide +kernel)) (by decide +kernel) (by decide +kernel)) .cs rfl) (.one (.cmp .lt (.idx (.nm rfl (.inl (by decide +kernel)) (by decide +kernel) (by decide +kernel)) .ci (fun _ _ => rfl)) (.nm rfl (.inl (by decide +kernel)) (by decide +kernel) (by decide +kernel)) rfl)))) (.cons (.bo (o := .And) (.cons (.cmp .eq (.nm rfl (.inl (by decide +kernel)) (by decide +kernel) (by decide +kernel)) .cs rfl) (.one (.cmp .lt (.nm rfl (.inl (by decide +kernel)) (by decide +kernel) (by decide +kernel)) (.nm rfl (.inl (by decide +kernel)) (by decide +kernel) (by decide +kernel)) rfl)))) (.one (.bo (o := .And) (.cons (.cmp .eq (.nm rfl (.inl (by decide +kernel)) (by decide +kernel) (by decide +kernel)) .cs rfl) (.one (.cmp .le (.nm rfl (.inl (by decide +kernel)) (by decide +kernel) (by decide +kernel)) (.nm rfl (.inl (by decide +kernel)) (by decide +kernel) (by decide +kernel)) rfl)))))))) (.cons (.ret (.tup (.cons (.nm rfl (.inl (by decide +kernel)) (by decide +kernel) (by decide +kernel)) (.cons (.nm rfl (.inl (by decide +kernel)) (by decide +kernel) (by decide +kernel)) .nil)))) .nil) .nil) (.cons (.set .f rfl (.inl (by decide +kernel)) (.ite (.cmp .eq (.nm rfl (.inl (by decide +kernel)) (by decide +kernel) (by decide +kernel)) .cs rfl) (.nm rfl (.inl (by decide +kernel)) (by decide +kernel) (by decide +kernel)) (.nm rfl (.inl (by decide +kernel)) (by decide +kernel) (by decide +kernel))) (fun _ => rfl)) (.cons (.set .f rfl (.inl (by decide +kernel)) (.ite (.cmp .eq (.nm rfl (.inl (by decide +kernel)) (by decide +kernel) (by decide +kernel)) .cs rfl) (.nm rfl (.inl (by decide +kernel)) (by decide +kernel) (by decide +kernel)) (.nm rfl (.inl (by decide +kernel)) (by decide +kernel) (by decide +kernel))) (fun _ => rfl)) .nil))) (fun _ _ => rfl)) (.cons (.ret .cn) .nil)))
def E_judge_channel : FE := ⟨"judge_channel", 2, semOf F_08 false 6 M_judge_channel, false⟩
theorem S_judge_channel : FnScope N_judge_channel ["things", "mark"] (defScope t_judge_channel) := ⟨rfl, rfl, rfl, by decide +kernel, rfl, by decide +kernel, by decide +kernel⟩
def F_09 : List FE := F_08 ++ [E_judge_channel]
theorem A_judge_channel : E_judge_channel.ar = 2 := rfl
/-! _law_open_cells -/
def N_w_open_cells : List Str := ["_law_script", "_law_stirred", "_law_cell", "_law_cells"]
/-! _law_pick -/
def N_w_pick : List Str := ["_law_source", "_law_most", "_law_cells", "_law_others", "_law_lap", "_law_stirred"]
def F_10 : List FE := F_09 ++ [pickF]
theorem A_w_pick : FE.ar pickF = 2 := rfl
/-! _law_any_order -/
def N_w_any_order : List Str := ["_law_source", "_law_things", "_law_others", "_law_lap"]
def F_11 : List FE := F_10 ++ [orderF]
theorem A_w_any_order : FE.ar orderF = 2 := rfl
/-! _law_draw_value -/
def N_w_draw_value : List Str := ["_law_source", "_law_kind"]
def M_w_draw_value : MSs := (.cons (.ite (.cmp .eq (.call 9 (.src 0 (.cons (.k (.int 9)) .nil))) (.k (.int 0))) (.cons (.ret (.k .none)) .nil) .nil) (.cons (.ite (.cmp .eq (.nm 1) (.k (.str "number"))) (.cons (.ret (.idx (.lst (.cons (.k (.int 0)) (.cons (.k (.int 1)) (.cons (.k (.int 2)) (.cons (.k (.int 3)) (.cons (.k (.int 5)) (.cons (.op .sub (.k (.int 0)) (.k (.int 1))) (.cons (.k (.int 7)) (.cons (.op .pow (.k (.int 10)) (.k (.int 8))) .nil))))))))) (.call 9 (.src 0 (.cons (.k (.int 8)) .nil))))) .nil) .nil) (.cons (.ret (.idx (.lst (.cons (.k (.str "a")) (.cons (.k (.str "b")) (.cons (.k (.str "c")) (.cons (.k (.str "")) (.cons (.k (.str "ab")) (.cons (.k (.str "z 9")) .nil))))))) (.call 9 (.src 0 (.cons (.k (.int 6)) .nil))))) .nil)))
theorem T_w_draw_value : TrSs F_11 gkL N_w_draw_value (defScope t_w_draw_value) (defBody t_w_draw_value) M_w_draw_value := (.cons (.ite (.cmp .eq (.call 9 (by decide +kernel) rfl rfl (by decide +kernel) (.src rfl (.inl (by decide +kernel)) (by decide +kernel) (by decide +kernel) (.cons .ci .nil))) .ci rfl) (.cons (.ret .cn) .nil) .nil) (.cons (.ite (.cmp .eq (.nm rfl (.inl (by decide +kernel)) (by decide +kernel) (by decide +kernel)) .cs rfl) (.cons (.ret (.idx (.lst (.cons .ci (.cons .ci (.cons .ci (.cons .ci (.cons .ci (.cons (.op .sub .ci .ci) (.cons .ci (.cons (.op .pow .ci .ci) .nil))))))))) (.call 9 (by decide +kernel) rfl rfl (by decide +kernel) (.src rfl (.inl (by decide +kernel)) (by decide +kernel) (by decide +kernel) (.cons .ci .nil))) (fun _ _ => rfl))) .nil) .nil) (.cons (.ret (.idx (.lst (.cons .cs (.cons .cs (.cons .cs (.cons .cs (.cons .cs (.cons .cs .nil))))))) (.call 9 (by decide +kernel) rfl rfl (by decide +kernel) (.src rfl (.inl (by decide +kernel)) (by decide +kernel) (by decide +kernel) (.cons .ci .nil))) (fun _ _ => rfl))) .nil)))
def E_w_draw_value : FE := ⟨"_law_draw_value", 2, semOf F_11 false 2 M_w_draw_value, false⟩
theorem S_w_draw_value : FnScope N_w_draw_value ["_law_source", "_law_kind"] (defScope t_w_draw_value) := ⟨rfl, rfl, rfl, by decide +kernel, rfl, by decide +kernel, by decide +kernel⟩
def F_12 : List FE := F_11 ++ [E_w_draw_value]
theorem A_w_draw_value : E_w_draw_value.ar = 2 := rfl
/-! _law_draw_things -/
def N_w_draw_things : List Str := ["_law_source", "_law_mark", "_law_numbers", "_law_many", "_law_found", "_law_n", "_law_lap", "_law_road", "_law_values"]
def M_w_draw_things_1 : MSs := (.cons (.set 7 .f (.call 9 (.src 0 (.cons (.k (.int 3)) .nil)))) (.cons (.ite (.cmp .eq (.nm 7) (.k (.int 0))) (.cons (.set 1 .f (.op .add (.nm 1) (.idx (.lst (.cons (.k (.int 0)) (.cons (.k (.int 1)) (.cons (.k (.int 3)) (.cons (.k (.int 9)) .nil))))) (.call 9 (.src 0 (.cons (.k (.int 4)) .nil)))))) (.cons (.app 4 .f (.tup (.cons (.k (.str "mark")) (.cons (.nm 1) .nil)))) .nil)) (.cons (.set 8 .f (.tup (.cons (.call 11 (.src 0 (.cons (.k (.str "text")) .nil))) (.cons (.call 11 (.src 0 (.cons (.k (.str "number")) .nil))) .nil)))) (.cons (.app 4 .f (.tup (.cons (.k (.str "row")) (.cons (.tup (.cons (.op .add (.nm 1) (.call 9 (.src 0 (.cons (.k (.int 9)) .nil)))) (.cons (.idx (.lst (.cons (.k (.int 1)) (.cons (.k (.int 1)) (.cons (.op .sub (.k (.int 0)) (.k (.int 1))) .nil)))) (.call 9 (.src 0 (.cons (.k (.int 3)) .nil)))) (.cons (.nm 8) .nil)))) .nil)))) .nil))) .nil))
def M_w_draw_things_2 : MSs := (.cons (.for_ (.nm 6) (.range1 (.call 9 (.src 0 (.cons (.op .add (.nm 3) (.k (.int 1))) .nil)))) M_w_draw_things_1) (.cons (.ite (.notN (.nm 5)) (.cons (.app 4 .f (.tup (.cons (.k (.str "barrier")) (.cons (.nm 5) .nil)))) .nil) .nil) .nil))
def M_w_draw_things : MSs := (.cons (.set 4 .o (.lst .nil)) (.cons (.for_ (.nm 5) (.seq (.op .add (.nm 2) (.lst (.cons (.k .none) .nil)))) M_w_draw_things_2) (.cons (.ret (.b1 .tuple (.nm 4))) .nil)))
theorem T_w_draw_things : TrSs F_12 gkL N_w_draw_things (defScope t_w_draw_things) (defBody t_w_draw_things) M_w_draw_things := (.cons (.set .o rfl (.inl (by decide +kernel)) (.lst .nil) (fun _ => rfl)) (.cons (.for_ (.nm rfl (.inl (by decide +kernel)) (.inl rfl)) (.seq (.op .add (.nm rfl (.inl (by decide +kernel)) (by decide +kernel) (by decide +kernel)) (.lst (.cons .cn .nil)))) (.cons (.for_ (.nm rfl (.inl (by decide +kernel)) (.inl rfl)) (.range1 (by decide +kernel) (.call 9 (by decide +kernel) rfl rfl (by decide +kernel) (.src rfl (.inl (by decide +kernel)) (by decide +kernel) (by decide +kernel) (.cons (.op .add (.nm rfl (.inl (by decide +kernel)) (by decide +kernel) (by decide +kernel)) .ci) .nil)))) (.cons (.set .f rfl (.inl (by decide +kernel)) (.call 9 (by decide +kernel) rfl rfl (by decide +kernel) (.src rfl (.inl (by decide +kernel)) (by decide +kernel) (by decide +kernel) (.cons .ci .nil))) (fun _ => rfl)) (.cons (.ite (.cmp .eq (.nm rfl (.inl (by decide +kernel)) (by decide +kernel) (by decide +kernel)) .ci rfl) (.cons (.set .f rfl (.inl (by decide +kernel)) (.op .add (.nm rfl (.inl (by decide +kernel)) (by decide +kernel) (by decide +kernel)) (.idx (.lst (.cons .ci (.cons .ci (.cons .ci (.cons .ci .nil))))) (.call 9 (by decide +kernel) rfl rfl (by decide +kernel) (.src rfl (.inl (by decide +kernel)) (by decide +kernel) (by decide +kernel) (.cons .ci .nil))) (fun _ _ => rfl))) (fun _ => rfl)) (.cons (.app .f rfl (.inl (by decide +kernel)) (by decide +kernel) (by decide +kernel) (.tup (.cons .cs (.cons (.nm rfl (.inl (by decide +kernel)) (by decide +kernel) (by decide +kernel)) .nil))) rfl) .nil)) (.cons (.set .f rfl (.inl (by decide +kernel)) (.tup (.cons (.call 11 (by decide +kernel) rfl rfl (by decide +kernel) (.src rfl (.inl (by decide +kernel)) (by decide +kernel) (by decide +kernel) (.cons .cs .nil))) (.cons (.call 11 (by decide +kernel) rfl rfl (by decide +kernel) (.src rfl (.inl (by decide +kernel)) (by decide +kernel) (by decide +kernel) (.cons .cs .nil))) .nil))) (fun _ => rfl)) (.cons (.app .f rfl (.inl (by decide +kernel)) (by decide +kernel) (by decide +kernel) (.tup (.cons .cs (.cons (.tup (.cons (.op .add (.nm rfl (.inl (by decide +kernel)) (by decide +kernel) (by decide +kernel)) (.call 9 (by decide +kernel) rfl rfl (by decide +kernel) (.src rfl (.inl (by decide +kernel)) (by decide +kernel) (by decide +kernel) (.cons .ci .nil)))) (.cons (.idx (.lst (.cons .ci (.cons .ci (.cons (.op .sub .ci .ci) .nil)))) (.call 9 (by decide +kernel) rfl rfl (by decide +kernel) (.src rfl (.inl (by decide +kernel)) (by decide +kernel) (by decide +kernel) (.cons .ci .nil))) (fun _ _ => rfl)) (.cons (.nm rfl (.inl (by decide +kernel)) (by decide +kernel) (by decide +kernel)) .nil)))) .nil))) rfl) .nil))) .nil)) (fun _ _ => rfl)) (.cons (.ite (.notN (.nm rfl (.inl (by decide +kernel)) (by decide +kernel) (by decide +kernel))) (.cons (.app .f rfl (.inl (by decide +kernel)) (by decide +kernel) (by decide +kernel) (.tup (.cons .cs (.cons (.nm rfl (.inl (by decide +kernel)) (by decide +kernel) (by decide +kernel)) .nil))) rfl) .nil) .nil) .nil)) (fun _ _ => rfl)) (.cons (.ret (.b1 .tuple (by decide +kernel) (.nm rfl (.inl (by decide +kernel)) (by decide +kernel) (by decide +kernel)))) .nil)))
def E_w_draw_things : FE := ⟨"_law_draw_things", 4, semOf F_12 false 9 M_w_draw_things, false⟩
theorem S_w_draw_things : FnScope N_w_draw_things ["_law_source", "_law_mark", "_law_numbers", "_law_many"] (defScope t_w_draw_things) := ⟨rfl, rfl, rfl, by decide +kernel, rfl, by decide +kernel, by decide +kernel⟩
def F_13 : List FE := F_12 ++ [E_w_draw_things]
theorem A_w_draw_things : E_w_draw_things.ar = 4 := rfl
/-! _law_barred -/
def N_w_barred : List Str := ["_law_waiting", "_law_channels", "_law_channel", "_law_n", "_law_found"]
def F_14 : List FE := F_13 ++ [barredF]
theorem A_w_barred : FE.ar barredF = 4 := rfl
/-! _law_waiting_right -/
def N_w_waiting_right : List Str := ["_law_source", "_law_channels", "_law_k", "_law_waiting", "_law_n", "_law_lap", "_law_came", "_law_channel", "_law_free", "_law_shown", "_law_one", "_law_told", "_law_some", "_law_late", "_law_later", "_law_due"]
def M_w_waiting_right_1 : MSs := (.cons (.ite (.cmp .ne (.call 13 (.cons (.nm 3) (.cons (.nm 1) (.cons (.nm 7) (.cons (.nm 13) .nil))))) (.lst (.cons (.nm 13) .nil))) (.cons (.ret (.k (.bool false))) .nil) .nil) .nil)
def M_w_waiting_right_2 : MSs := (.cons (.par2 8 9 .f .f (.comp (.nm 10) (.nm 10) (.seq (.nm 1)) (.cons (.cmp .notin (.nm 10) (.nm 6)) .nil) [10]) (.b1 .repr (.lst (.cons (.nm 3) (.cons (.nm 1) .nil))))) (.cons (.set 11 .q (.lst (.cons (.call 2 (.cons (.nm 3) (.cons (.nm 1) .nil))) (.cons (.call 3 (.cons (.nm 3) (.cons (.nm 1) .nil))) (.cons (.call 2 (.cons (.nm 3) (.cons (.b1 .tuple (.nm 1)) .nil))) .nil))))) (.cons (.ite (.cmp .ne (.b1 .repr (.nm 11)) (.b1 .repr (.lst (.cons (.nm 8) (.cons (.ite (.cmp .ne (.nm 6) (.lst .nil)) (.nm 8) (.lst .nil)) (.cons (.nm 8) .nil)))))) (.cons (.ret (.k (.bool false))) .nil) .nil) (.cons (.spoil 11 12) (.cons (.set 11 .f (.comp (.call 1 (.cons (.nm 3) (.cons (.nm 10) .nil))) (.nm 10) (.seq (.nm 1)) .nil [10])) (.cons (.ite (.or_ (.cmp .ne (.b1 .repr (.nm 11)) (.b1 .repr (.comp (.cmp .isin (.nm 10) (.nm 6)) (.nm 10) (.seq (.nm 1)) .nil [10]))) (.cmp .ne (.b1 .repr (.lst (.cons (.nm 3) (.cons (.nm 1) .nil)))) (.nm 9))) (.cons (.ret (.k (.bool false))) .nil) .nil) (.cons (.ite (.and_ (.cmp .ne (.nm 6) (.lst .nil)) (.cmp .ne (.call 13 (.cons (.nm 3) (.cons (.nm 1) (.cons (.idx (.nm 6) (.call 9 (.src 0 (.cons (.b1 .len (.nm 6)) .nil)))) (.cons (.nm 4) .nil))))) (.lst (.cons (.nm 4) .nil)))) (.cons (.ret (.k (.bool false))) .nil) .nil) (.cons (.for_ (.nm 13) (.seq (.ite (.cmp .ne (.nm 6) (.lst .nil)) (.slc (.lst (.cons (.op .add (.nm 4) (.k (.int 1))) (.cons (.op .add (.nm 4) (.k (.int 7))) (.cons (.op .sub (.nm 4) (.k (.int 1))) .nil)))) .no (.yes (.op .add (.k (.int 2)) (.b1 .int (.cmp .gt (.nm 4) (.k (.int 1))))))) (.lst .nil))) M_w_waiting_right_1) (.cons (.set 14 .f (.call 0 (.cons (.nm 3) (.cons (.nm 1) (.cons (.nm 7) (.cons (.nm 4) .nil)))))) (.cons (.set 6 .f (.b1 .sorted (.op .add (.nm 6) (.lst (.cons (.nm 7) .nil))))) (.cons (.set 15 .f (.ite (.cmp .eq (.b1 .len (.nm 6)) (.b1 .len (.nm 1))) (.tup (.cons (.k .none) (.cons (.k (.bool true)) .nil))) (.tup (.cons (.tup (.cons (.nm 4) (.cons (.b1 .tuple (.nm 6)) .nil))) (.cons (.k (.bool false)) .nil))))) (.cons (.ite (.or_ (.cmp .ne (.b1 .repr (.nm 14)) (.b1 .repr (.nm 15))) (.or_ (.cmp .ne (.b1 .repr (.lst (.cons (.nm 3) (.cons (.nm 1) .nil)))) (.nm 9)) (.cmp .ne (.b1 .repr (.call 0 (.cons (.nm 3) (.cons (.b1 .tuple (.nm 1)) (.cons (.nm 7) (.cons (.nm 4) .nil)))))) (.b1 .repr (.nm 15))))) (.cons (.ret (.k (.bool false))) .nil) .nil) (.cons (.set 3 .f (.idx (.nm 14) (.k (.int 0)))) .nil)))))))))))))
def M_w_waiting_right_3 : MSs := (.cons (.par2 4 6 .f .f (.op .add (.op .add (.nm 4) (.k (.int 1))) (.call 9 (.src 0 (.cons (.k (.int 3)) .nil)))) (.lst .nil)) (.cons (.for_ (.nm 7) (.seq (.call 10 (.src 0 (.cons (.nm 1) .nil)))) M_w_waiting_right_2) .nil))
def M_w_waiting_right : MSs := (.cons (.set 1 .f (.call 10 (.src 0 (.cons (.comp (.tup (.cons (.tup (.cons (.k (.str "a")) (.cons (.nm 2) .nil))) (.cons (.op .fdiv (.nm 2) (.k (.int 3))) (.cons (.tup (.cons (.k (.str "b")) (.cons (.k (.int 0)) .nil))) .nil)))) (.nm 2) (.range1 (.op .add (.k (.int 1)) (.call 9 (.src 0 (.cons (.k (.int 6)) .nil))))) .nil [2]) .nil)))) (.cons (.par2 3 4 .f .f (.k .none) (.k (.int 0))) (.cons (.for_ (.nm 5) (.range1 (.k (.int 3))) M_w_waiting_right_3) (.cons (.ret (.isN (.nm 3))) .nil))))
theorem T_w_waiting_right : TrSs F_14 gkL N_w_waiting_right (defScope t_w_waiting_right) (defBody t_w_waiting_right) M_w_waiting_right := (.cons (.set .f rfl (.inl (by decide +kernel)) (.call 10 (by decide +kernel) rfl rfl (by decide +kernel) (.src rfl (.inl (by decide +kernel)) (by decide +kernel) (by decide +kernel) (.cons (.comp (own := [("_law_k", 2)]) (by decide +kernel) (.nm rfl (.inl (by decide +kernel)) (.inr (by decide +kernel))) (by decide +kernel) (.range1 (by decide +kernel) (.op .add .ci (.call 9 (by decide +kernel) rfl rfl (by decide +kernel) (.src rfl (.inl (by decide +kernel)) (by decide +kernel) (by decide +kernel) (.cons .ci .nil))))) .nil (.tup (.cons (.tup (.cons .cs (.cons (.nm rfl (.inl (by decide +kernel)) (by decide +kernel) (by decide +kernel)) .nil))) (.cons (.op .fdiv (.nm rfl (.inl (by decide +kernel)) (by decide +kernel) (by decide +kernel)) .ci) (.cons (.tup (.cons .cs (.cons .ci .nil))) .nil)))) (fun _ _ => rfl)) .nil))) (fun _ => rfl)) (.cons (.par2O .f .f rfl rfl (.inr (by decide +kernel)) (.inl (by decide +kernel)) (by decide +kernel) .cn .ci) (.cons (.for_ (.nm rfl (.inl (by decide +kernel)) (.inl rfl)) (.range1 (by decide +kernel) .ci) (.cons (.par2O .f .f rfl rfl (.inl (by decide +kernel)) (.inr (by decide +kernel)) (by decide +kernel) (.op .add (.op .add (.nm rfl (.inl (by decide +kernel)) (by decide +kernel) (by decide +kernel)) .ci) (.call 9 (by decide +kernel) rfl rfl (by decide +kernel) (.src rfl (.inl (by decide +kernel)) (by decide +kernel) (by decide +kernel) (.cons .ci .nil)))) (.lst .nil)) (.cons (.for_ (.nm rfl (.inl (by decide +kernel)) (.inl rfl)) (.seq (.call 10 (by decide +kernel) rfl rfl (by decide +kernel) (.src rfl (.inl (by decide +kernel)) (by decide +kernel) (by decide +kernel) (.cons (.nm rfl (.inl (by decide +kernel)) (by decide +kernel) (by decide +kernel)) .nil)))) (.cons (.par2 .f .f rfl rfl (by decide) (by decide +kernel) (by decide +kernel) (by decide +kernel) rfl (.comp (own := [("_law_one", 10)]) (by decide +kernel) (.nm rfl (.inl (by decide +kernel)) (.inr (by decide +kernel))) (by decide +kernel) (.seq (.nm rfl (.inl (by decide +kernel)) (by decide +kernel) (by decide +kernel))) (.one (.cmp .notin (.nm rfl (.inl (by decide +kernel)) (by decide +kernel) (by decide +kernel)) (.nm rfl (.inr (.inl (by decide +kernel))) (by decide +kernel) (by decide +kernel)) rfl)) (.nm rfl (.inl (by decide +kernel)) (by decide +kernel) (by decide +kernel)) (fun _ _ => rfl)) (.b1 .repr (by decide +kernel) (.lst (.cons (.nm rfl (.inr (.inl (by decide +kernel))) (by decide +kernel) (by decide +kernel)) (.cons (.nm rfl (.inl (by decide +kernel)) (by decide +kernel) (by decide +kernel)) .nil)))) rfl rfl) (.cons (.set .q rfl (.inl (by decide +kernel)) (.lst (.cons (.call 2 (by decide +kernel) rfl rfl (by decide +kernel) (.cons (.nm rfl (.inr (.inl (by decide +kernel))) (by decide +kernel) (by decide +kernel)) (.cons (.nm rfl (.inl (by decide +kernel)) (by decide +kernel) (by decide +kernel)) .nil))) (.cons (.call 3 (by decide +kernel) rfl rfl (by decide +kernel) (.cons (.nm rfl (.inr (.inl (by decide +kernel))) (by decide +kernel) (by decide +kernel)) (.cons (.nm rfl (.inl (by decide +kernel)) (by decide +kernel) (by decide +kernel)) .nil))) (.cons (.call 2 (by decide +kernel) rfl rfl (by decide +kernel) (.cons (.nm rfl (.inr (.inl (by decide +kernel))) (by decide +kernel) (by decide +kernel)) (.cons (.b1 .tuple (by decide +kernel) (.nm rfl (.inl (by decide +kernel)) (by decide +kernel) (by decide +kernel))) .nil))) .nil)))) (fun _ => rfl)) (.cons (.ite (.cmp .ne (.b1 .repr (by decide +kernel) (.nm rfl (.inl (by decide +kernel)) (by decide +kernel) (by decide +kernel))) (.b1 .repr (by decide +kernel) (.lst (.cons (.nm rfl (.inl (by decide +kernel)) (by decide +kernel) (by decide +kernel)) (.cons (.ite (.cmp .ne (.nm rfl (.inr (.inl (by decide +kernel))) (by decide +kernel) (by decide +kernel)) (.lst .nil) rfl) (.nm rfl (.inl (by decide +kernel)) (by decide +kernel) (by decide +kernel)) (.lst .nil)) (.cons (.nm rfl (.inl (by decide +kernel)) (by decide +kernel) (by decide +kernel)) .nil))))) rfl) (.cons (.ret .cb) .nil) .nil) (.cons (.spoil rfl rfl (.inl (by decide +kernel)) (.inl (by decide +kernel)) (by decide +kernel) (by decide +kernel) (by decide +kernel) (by decide +kernel) rfl) (.cons (.setL .f rfl (by decide +kernel) (.comp (own := [("_law_one", 10)]) (by decide +kernel) (.nm rfl (.inl (by decide +kernel)) (.inr (by decide +kernel))) (by decide +kernel) (.seq (.nm rfl (.inl (by decide +kernel)) (by decide +kernel) (by decide +kernel))) .nil (.call 1 (by decide +kernel) rfl rfl (by decide +kernel) (.cons (.nm rfl (.inr (.inl (by decide +kernel))) (by decide +kernel) (by decide +kernel)) (.cons (.nm rfl (.inl (by decide +kernel)) (by decide +kernel) (by decide +kernel)) .nil))) (fun _ _ => rfl)) rfl (by decide +kernel) (by decide)) (.cons (.ite (.bo (o := .Or) (.cons (.cmp .ne (.b1 .repr (by decide +kernel) (.nm rfl (.inl (by decide +kernel)) (by decide +kernel) (by decide +kernel))) (.b1 .repr (by decide +kernel) (.comp (own := [("_law_one", 10)]) (by decide +kernel) (.nm rfl (.inl (by decide +kernel)) (.inr (by decide +kernel))) (by decide +kernel) (.seq (.nm rfl (.inl (by decide +kernel)) (by decide +kernel) (by decide +kernel))) .nil (.cmp .isin (.nm rfl (.inl (by decide +kernel)) (by decide +kernel) (by decide +kernel)) (.nm rfl (.inr (.inl (by decide +kernel))) (by decide +kernel) (by decide +kernel)) rfl) (fun _ _ => rfl))) rfl) (.one (.cmp .ne (.b1 .repr (by decide +kernel) (.lst (.cons (.nm rfl (.inr (.inl (by decide +kernel))) (by decide +kernel) (by decide +kernel)) (.cons (.nm rfl (.inl (by decide +kernel)) (by decide +kernel) (by decide +kernel)) .nil)))) (.nm rfl (.inl (by decide +kernel)) (by decide +kernel) (by decide +kernel)) rfl)))) (.cons (.ret .cb) .nil) .nil) (.cons (.ite (.bo (o := .And) (.cons (.cmp .ne (.nm rfl (.inr (.inl (by decide +kernel))) (by decide +kernel) (by decide +kernel)) (.lst .nil) rfl) (.one (.cmp .ne (.call 13 (by decide +kernel) rfl rfl (by decide +kernel) (.cons (.nm rfl (.inr (.inl (by decide +kernel))) (by decide +kernel) (by decide +kernel)) (.cons (.nm rfl (.inl (by decide +kernel)) (by decide +kernel) (by decide +kernel)) (.cons (.idx (.nm rfl (.inr (.inl (by decide +kernel))) (by decide +kernel) (by decide +kernel)) (.call 9 (by decide +kernel) rfl rfl (by decide +kernel) (.src rfl (.inl (by decide +kernel)) (by decide +kernel) (by decide +kernel) (.cons (.b1 .len (by decide +kernel) (.nm rfl (.inr (.inl (by decide +kernel))) (by decide +kernel) (by decide +kernel))) .nil))) (fun _ _ => rfl)) (.cons (.nm rfl (.inl (by decide +kernel)) (by decide +kernel) (by decide +kernel)) .nil))))) (.lst (.cons (.nm rfl (.inl (by decide +kernel)) (by decide +kernel) (by decide +kernel)) .nil)) rfl)))) (.cons (.ret .cb) .nil) .nil) (.cons (.for_ (.nm rfl (.inl (by decide +kernel)) (.inl rfl)) (.seq (.ite (.cmp .ne (.nm rfl (.inr (.inl (by decide +kernel))) (by decide +kernel) (by decide +kernel)) (.lst .nil) rfl) (.slc (.lst (.cons (.op .add (.nm rfl (.inl (by decide +kernel)) (by decide +kernel) (by decide +kernel)) .ci) (.cons (.op .add (.nm rfl (.inl (by decide +kernel)) (by decide +kernel) (by decide +kernel)) .ci) (.cons (.op .sub (.nm rfl (.inl (by decide +kernel)) (by decide +kernel) (by decide +kernel)) .ci) .nil)))) .no (.yes (.op .add .ci (.b1 .int (by decide +kernel) (.cmp .gt (.nm rfl (.inl (by decide +kernel)) (by decide +kernel) (by decide +kernel)) .ci rfl))))) (.lst .nil))) (.cons (.ite (.cmp .ne (.call 13 (by decide +kernel) rfl rfl (by decide +kernel) (.cons (.nm rfl (.inr (.inl (by decide +kernel))) (by decide +kernel) (by decide +kernel)) (.cons (.nm rfl (.inl (by decide +kernel)) (by decide +kernel) (by decide +kernel)) (.cons (.nm rfl (.inl (by decide +kernel)) (by decide +kernel) (by decide +kernel)) (.cons (.nm rfl (.inl (by decide +kernel)) (by decide +kernel) (by decide +kernel)) .nil))))) (.lst (.cons (.nm rfl (.inl (by decide +kernel)) (by decide +kernel) (by decide +kernel)) .nil)) rfl) (.cons (.ret .cb) .nil) .nil) .nil) (fun _ _ => rfl)) (.cons (.set .f rfl (.inl (by decide +kernel)) (.call 0 (by decide +kernel) rfl rfl (by decide +kernel) (.cons (.nm rfl (.inr (.inl (by decide +kernel))) (by decide +kernel) (by decide +kernel)) (.cons (.nm rfl (.inl (by decide +kernel)) (by decide +kernel) (by decide +kernel)) (.cons (.nm rfl (.inl (by decide +kernel)) (by decide +kernel) (by decide +kernel)) (.cons (.nm rfl (.inl (by decide +kernel)) (by decide +kernel) (by decide +kernel)) .nil))))) (fun _ => rfl)) (.cons (.set .f rfl (.inr (by decide +kernel)) (.b1 .sorted (by decide +kernel) (.op .add (.nm rfl (.inr (.inl (by decide +kernel))) (by decide +kernel) (by decide +kernel)) (.lst (.cons (.nm rfl (.inl (by decide +kernel)) (by decide +kernel) (by decide +kernel)) .nil)))) (fun _ => rfl)) (.cons (.set .f rfl (.inl (by decide +kernel)) (.ite (.cmp .eq (.b1 .len (by decide +kernel) (.nm rfl (.inr (.inl (by decide +kernel))) (by decide +kernel) (by decide +kernel))) (.b1 .len (by decide +kernel) (.nm rfl (.inl (by decide +kernel)) (by decide +kernel) (by decide +kernel))) rfl) (.tup (.cons .cn (.cons .cb .nil))) (.tup (.cons (.tup (.cons (.nm rfl (.inl (by decide +kernel)) (by decide +kernel) (by decide +kernel)) (.cons (.b1 .tuple (by decide +kernel) (.nm rfl (.inr (.inl (by decide +kernel))) (by decide +kernel) (by decide +kernel))) .nil))) (.cons .cb .nil)))) (fun _ => rfl)) (.cons (.ite (.bo (o := .Or) (.cons (.cmp .ne (.b1 .repr (by decide +kernel) (.nm rfl (.inl (by decide +kernel)) (by decide +kernel) (by decide +kernel))) (.b1 .repr (by decide +kernel) (.nm rfl (.inl (by decide +kernel)) (by decide +kernel) (by decide +kernel))) rfl) (.cons (.cmp .ne (.b1 .repr (by decide +kernel) (.lst (.cons (.nm rfl (.inr (.inl (by decide +kernel))) (by decide +kernel) (by decide +kernel)) (.cons (.nm rfl (.inl (by decide +kernel)) (by decide +kernel) (by decide +kernel)) .nil)))) (.nm rfl (.inl (by decide +kernel)) (by decide +kernel) (by decide +kernel)) rfl) (.one (.cmp .ne (.b1 .repr (by decide +kernel) (.call 0 (by decide +kernel) rfl rfl (by decide +kernel) (.cons (.nm rfl (.inr (.inl (by decide +kernel))) (by decide +kernel) (by decide +kernel)) (.cons (.b1 .tuple (by decide +kernel) (.nm rfl (.inl (by decide +kernel)) (by decide +kernel) (by decide +kernel))) (.cons (.nm rfl (.inl (by decide +kernel)) (by decide +kernel) (by decide +kernel)) (.cons (.nm rfl (.inl (by decide +kernel)) (by decide +kernel) (by decide +kernel)) .nil)))))) (.b1 .repr (by decide +kernel) (.nm rfl (.inl (by decide +kernel)) (by decide +kernel) (by decide +kernel))) rfl))))) (.cons (.ret .cb) .nil) .nil) (.cons (.set .f rfl (.inr (by decide +kernel)) (.idx (.nm rfl (.inl (by decide +kernel)) (by decide +kernel) (by decide +kernel)) .ci (fun _ _ => rfl)) (fun _ => rfl)) .nil))))))))))))) (fun _ _ => rfl)) .nil)) (fun _ _ => rfl)) (.cons (.ret (.isN (.nm rfl (.inr (.inl (by decide +kernel))) (by decide +kernel) (by decide +kernel)))) .nil))))
def E_w_waiting_right : FE := ⟨"_law_waiting_right", 1, semOf F_14 false 16 M_w_waiting_right, false⟩
theorem S_w_waiting_right : FnScope N_w_waiting_right ["_law_source"] (defScope t_w_waiting_right) := ⟨rfl, rfl, rfl, by decide +kernel, rfl, by decide +kernel, by decide +kernel⟩
def F_15 : List FE := F_14 ++ [E_w_waiting_right]
theorem A_w_waiting_right : E_w_waiting_right.ar = 1 := rfl
/-! _law_fault -/
def N_w_fault : List Str := ["_law_things", "_law_mark", "_law_last", "_law_k", "_law_thing", "_law_word", "_law_told"]
def M_w_fault_1 : MSs := (.cons (.unp (.two (.nm 5) (.nm 6)) .f (.nm 4)) (.cons (.ite (.or_ (.and_ (.cmp .eq (.nm 5) (.k (.str "row"))) (.cmp .lt (.idx (.nm 6) (.k (.int 0))) (.nm 1))) (.or_ (.and_ (.cmp .eq (.nm 5) (.k (.str "mark"))) (.cmp .lt (.nm 6) (.nm 1))) (.and_ (.cmp .eq (.nm 5) (.k (.str "barrier"))) (.cmp .le (.nm 6) (.nm 2))))) (.cons (.ret (.tup (.cons (.nm 5) (.cons (.nm 3) .nil)))) .nil) .nil) (.cons (.ite (.cmp .eq (.nm 5) (.k (.str "mark"))) (.cons (.set 1 .f (.nm 6)) .nil) .nil) (.cons (.ite (.cmp .eq (.nm 5) (.k (.str "barrier"))) (.cons (.set 2 .f (.nm 6)) .nil) .nil) .nil))))
def M_w_fault : MSs := (.cons (.set 2 .f (.k (.int 0))) (.cons (.for_ (.two (.nm 3) (.nm 4)) (.enum (.nm 0)) M_w_fault_1) (.cons (.ret (.k .none)) .nil)))
theorem T_w_fault : TrSs F_15 gkL N_w_fault (defScope t_w_fault) (defBody t_w_fault) M_w_fault := (.cons (.set .f rfl (.inl (by decide +kernel)) .ci (fun _ => rfl)) (.cons (.for_ (.two (.nm rfl (.inl (by decide +kernel)) (.inl rfl)) (.nm rfl (.inl (by decide +kernel)) (.inl rfl))) (.enum (by decide +kernel) (.nm rfl (.inl (by decide +kernel)) (by decide +kernel) (by decide +kernel))) (.cons (.unp .f (.two (.nm rfl (.inl (by decide +kernel)) (.inl rfl)) (.nm rfl (.inl (by decide +kernel)) (.inl rfl))) (.nm rfl (.inl (by decide +kernel)) (by decide +kernel) (by decide +kernel)) (fun _ => rfl) (fun _ => rfl)) (.cons (.ite (.bo (o := .Or) (.cons (.bo (o := .And) (.cons (.cmp .eq (.nm rfl (.inl (by decide +kernel)) (by decide +kernel) (by decide +kernel)) .cs rfl) (.one (.cmp .lt (.idx (.nm rfl (.inl (by decide +kernel)) (by decide +kernel) (by decide +kernel)) .ci (fun _ _ => rfl)) (.nm rfl (.inl (by decide +kernel)) (by decide +kernel) (by decide +kernel)) rfl)))) (.cons (.bo (o := .And) (.cons (.cmp .eq (.nm rfl (.inl (by decide +kernel)) (by decide +kernel) (by decide +kernel)) .cs rfl) (.one (.cmp .lt (.nm rfl (.inl (by decide +kernel)) (by decide +kernel) (by decide +kernel)) (.nm rfl (.inl (by decide +kernel)) (by decide +kernel) (by decide +kernel)) rfl)))) (.one (.bo (o := .And) (.cons (.cmp .eq (.nm rfl (.inl (by decide +kernel)) (by decide +kernel) (by decide +kernel)) .cs rfl) (.one (.cmp .le (.nm rfl (.inl (by decide +kernel)) (by decide +kernel) (by decide +kernel)) (.nm rfl (.inl (by decide +kernel)) (by decide +kernel) (by decide +kernel)) rfl)))))))) (.cons (.ret (.tup (.cons (.nm rfl (.inl (by decide +kernel)) (by decide +kernel) (by decide +kernel)) (.cons (.nm rfl (.inl (by decide +kernel)) (by decide +kernel) (by decide +kernel)) .nil)))) .nil) .nil) (.cons (.ite (.cmp .eq (.nm rfl (.inl (by decide +kernel)) (by decide +kernel) (by decide +kernel)) .cs rfl) (.cons (.set .f rfl (.inl (by decide +kernel)) (.nm rfl (.inl (by decide +kernel)) (by decide +kernel) (by decide +kernel)) (fun _ => rfl)) .nil) .nil) (.cons (.ite (.cmp .eq (.nm rfl (.inl (by decide +kernel)) (by decide +kernel) (by decide +kernel)) .cs rfl) (.cons (.set .f rfl (.inl (by decide +kernel)) (.nm rfl (.inl (by decide +kernel)) (by decide +kernel) (by decide +kernel)) (fun _ => rfl)) .nil) .nil) .nil)))) (fun _ _ => rfl)) (.cons (.ret .cn) .nil)))
def E_w_fault : FE := ⟨"_law_fault", 2, semOf F_15 false 7 M_w_fault, false⟩
theorem S_w_fault : FnScope N_w_fault ["_law_things", "_law_mark"] (defScope t_w_fault) := ⟨rfl, rfl, rfl, by decide +kernel, rfl, by decide +kernel, by decide +kernel⟩
def F_16 : List FE := F_15 ++ [E_w_fault]
theorem A_w_fault : E_w_fault.ar = 2 := rfl
/-! _law_things_right -/
def N_w_things_right : List Str := ["_law_source", "_law_mark", "_law_things", "_law_numbers", "_law_thing", "_law_n", "_law_at", "_law_k", "_law_lap", "_law_j", "_law_bent", "_law_low"]
def M_w_things_right_1 : MSs := (.cons (.par2 7 9 .f .f (.call 9 (.src 0 (.cons (.op .add (.b1 .len (.nm 2)) (.k (.int 1))) .nil))) (.call 9 (.src 0 (.cons (.op .add (.b1 .len (.nm 2)) (.k (.int 1))) .nil)))) (.cons (.set 10 .f (.op .add (.op .add (.slc (.nm 2) .no (.yes (.nm 7))) (.slc (.nm 2) (.yes (.nm 9)) (.yes (.op .add (.nm 9) (.k (.int 1)))))) (.slc (.nm 2) (.yes (.nm 7)) .no))) (.cons (.set 10 .f (.ite (.cmp .eq (.nm 8) (.k (.int 5))) (.call 10 (.src 0 (.cons (.nm 10) .nil))) (.nm 10))) (.cons (.set 11 .f (.op .add (.nm 1) (.idx (.lst (.cons (.k (.int 0)) (.cons (.k (.int 0)) (.cons (.k (.int 2)) (.cons (.k (.int 20)) .nil))))) (.call 9 (.src 0 (.cons (.k (.int 4)) .nil)))))) (.cons (.ite (.cmp .ne (.b1 .repr (.call 8 (.cons (.b1 .tuple (.nm 10)) (.cons (.nm 11) .nil)))) (.b1 .repr (.call 15 (.cons (.b1 .tuple (.nm 10)) (.cons (.nm 11) .nil))))) (.cons (.ret (.k (.bool false))) .nil) .nil) .nil)))))
def M_w_things_right_2 : MSs := (.cons (.set 6 .f (.op .add (.slc (.comp (.nm 7) (.two (.nm 7) (.nm 4)) (.enum (.nm 2)) (.cons (.cmp .eq (.nm 4) (.tup (.cons (.k (.str "barrier")) (.cons (.nm 5) .nil)))) .nil) [7, 4]) .no (.yes (.k (.int 1)))) (.lst (.cons (.b1 .len (.nm 2)) .nil)))) (.cons (.ite (.cmp .ne (.b1 .repr (.lst (.cons (.call 5 (.cons (.nm 2) (.cons (.nm 5) .nil))) (.cons (.call 6 (.cons (.nm 2) (.cons (.nm 5) .nil))) .nil)))) (.b1 .repr (.lst (.cons (.slc (.nm 2) .no (.yes (.idx (.nm 6) (.k (.int 0))))) (.cons (.slc (.nm 2) (.yes (.op .add (.idx (.nm 6) (.k (.int 0))) (.k (.int 1)))) .no) .nil))))) (.cons (.ret (.k (.bool false))) .nil) .nil) .nil))
def M_w_things_right : MSs := (.cons (.set 1 .f (.idx (.lst (.cons (.k (.int 0)) (.cons (.k (.int 0)) (.cons (.k (.int 7)) .nil)))) (.call 9 (.src 0 (.cons (.k (.int 3)) .nil))))) (.cons (.set 2 .f (.call 12 (.src 0 (.cons (.nm 1) (.cons (.slc (.lst (.cons (.k (.int 1)) (.cons (.k (.int 2)) (.cons (.k (.int 5)) (.cons (.k (.int 9)) .nil))))) .no (.yes (.call 9 (.src 0 (.cons (.k (.int 5)) .nil))))) (.cons (.k (.int 3)) .nil)))))) (.cons (.set 3 .f (.comp (.idx (.nm 4) (.k (.int 1))) (.nm 4) (.seq (.nm 2)) (.cons (.cmp .eq (.idx (.nm 4) (.k (.int 0))) (.k (.str "barrier"))) .nil) [4])) (.cons (.ite (.or_ (.cmp .ne (.b1 .repr (.call 7 (.cons (.nm 2) .nil))) (.b1 .repr (.b1 .tuple (.nm 3)))) (.notN (.call 8 (.cons (.nm 2) (.cons (.nm 1) .nil))))) (.cons (.ret (.k (.bool false))) .nil) .nil) (.cons (.for_ (.nm 5) (.seq (.tup (.cons (.k (.int 1)) (.cons (.k (.int 2)) (.cons (.k (.int 3)) (.cons (.k (.int 9)) .nil)))))) M_w_things_right_2) (.cons (.for_ (.nm 8) (.range1 (.k (.int 6))) M_w_things_right_1) (.cons (.ret (.k (.bool true))) .nil)))))))
theorem T_w_things_right : TrSs F_16 gkL N_w_things_right (defScope t_w_things_right) (defBody t_w_things_right) M_w_things_right := (.cons (.set .f rfl (.inl (by decide +kernel)) (.idx (.lst (.cons .ci (.cons .ci (.cons .ci .nil)))) (.call 9 (by decide +kernel) rfl rfl (by decide +kernel) (.src rfl (.inl (by decide +kernel)) (by decide +kernel) (by decide +kernel) (.cons .ci .nil))) (fun _ _ => rfl)) (fun _ => rfl)) (.cons (.set .f rfl (.inl (by decide +kernel)) (.call 12 (by decide +kernel) rfl rfl (by decide +kernel) (.src rfl (.inl (by decide +kernel)) (by decide +kernel) (by decide +kernel) (.cons (.nm rfl (.inl (by decide +kernel)) (by decide +kernel) (by decide +kernel)) (.cons (.slc (.lst (.cons .ci (.cons .ci (.cons .ci (.cons .ci .nil))))) .no (.yes (.call 9 (by decide +kernel) rfl rfl (by decide +kernel) (.src rfl (.inl (by decide +kernel)) (by decide +kernel) (by decide +kernel) (.cons .ci .nil))))) (.cons .ci .nil))))) (fun _ => rfl)) (.cons (.setL .f rfl (by decide +kernel) (.comp (own := [("_law_thing", 4)]) (by decide +kernel) (.nm rfl (.inl (by decide +kernel)) (.inr (by decide +kernel))) (by decide +kernel) (.seq (.nm rfl (.inl (by decide +kernel)) (by decide +kernel) (by decide +kernel))) (.one (.cmp .eq (.idx (.nm rfl (.inl (by decide +kernel)) (by decide +kernel) (by decide +kernel)) .ci (fun _ _ => rfl)) .cs rfl)) (.idx (.nm rfl (.inl (by decide +kernel)) (by decide +kernel) (by decide +kernel)) .ci (fun _ _ => rfl)) (fun _ _ => rfl)) rfl (by decide +kernel) (by decide)) (.cons (.ite (.bo (o := .Or) (.cons (.cmp .ne (.b1 .repr (by decide +kernel) (.call 7 (by decide +kernel) rfl rfl (by decide +kernel) (.cons (.nm rfl (.inl (by decide +kernel)) (by decide +kernel) (by decide +kernel)) .nil))) (.b1 .repr (by decide +kernel) (.b1 .tuple (by decide +kernel) (.nm rfl (.inl (by decide +kernel)) (by decide +kernel) (by decide +kernel)))) rfl) (.one (.notN (.call 8 (by decide +kernel) rfl rfl (by decide +kernel) (.cons (.nm rfl (.inl (by decide +kernel)) (by decide +kernel) (by decide +kernel)) (.cons (.nm rfl (.inl (by decide +kernel)) (by decide +kernel) (by decide +kernel)) .nil))))))) (.cons (.ret .cb) .nil) .nil) (.cons (.for_ (.nm rfl (.inr (by decide +kernel)) (.inl rfl)) (.seq (.tup (.cons .ci (.cons .ci (.cons .ci (.cons .ci .nil)))))) (.cons (.set .f rfl (.inl (by decide +kernel)) (.op .add (.slc (.comp (own := [("_law_k", 7), ("_law_thing", 4)]) (by decide +kernel) (.two (.nm rfl (.inl (by decide +kernel)) (.inr (by decide +kernel))) (.nm rfl (.inl (by decide +kernel)) (.inr (by decide +kernel)))) (by decide +kernel) (.enum (by decide +kernel) (.nm rfl (.inl (by decide +kernel)) (by decide +kernel) (by decide +kernel))) (.one (.cmp .eq (.nm rfl (.inl (by decide +kernel)) (by decide +kernel) (by decide +kernel)) (.tup (.cons .cs (.cons (.nm rfl (.inr (.inl (by decide +kernel))) (by decide +kernel) (by decide +kernel)) .nil))) rfl)) (.nm rfl (.inl (by decide +kernel)) (by decide +kernel) (by decide +kernel)) (fun _ _ => rfl)) .no (.yes .ci)) (.lst (.cons (.b1 .len (by decide +kernel) (.nm rfl (.inl (by decide +kernel)) (by decide +kernel) (by decide +kernel))) .nil))) (fun _ => rfl)) (.cons (.ite (.cmp .ne (.b1 .repr (by decide +kernel) (.lst (.cons (.call 5 (by decide +kernel) rfl rfl (by decide +kernel) (.cons (.nm rfl (.inl (by decide +kernel)) (by decide +kernel) (by decide +kernel)) (.cons (.nm rfl (.inr (.inl (by decide +kernel))) (by decide +kernel) (by decide +kernel)) .nil))) (.cons (.call 6 (by decide +kernel) rfl rfl (by decide +kernel) (.cons (.nm rfl (.inl (by decide +kernel)) (by decide +kernel) (by decide +kernel)) (.cons (.nm rfl (.inr (.inl (by decide +kernel))) (by decide +kernel) (by decide +kernel)) .nil))) .nil)))) (.b1 .repr (by decide +kernel) (.lst (.cons (.slc (.nm rfl (.inl (by decide +kernel)) (by decide +kernel) (by decide +kernel)) .no (.yes (.idx (.nm rfl (.inl (by decide +kernel)) (by decide +kernel) (by decide +kernel)) .ci (fun _ _ => rfl)))) (.cons (.slc (.nm rfl (.inl (by decide +kernel)) (by decide +kernel) (by decide +kernel)) (.yes (.op .add (.idx (.nm rfl (.inl (by decide +kernel)) (by decide +kernel) (by decide +kernel)) .ci (fun _ _ => rfl)) .ci)) .no) .nil)))) rfl) (.cons (.ret .cb) .nil) .nil) .nil)) (fun _ _ => rfl)) (.cons (.for_ (.nm rfl (.inl (by decide +kernel)) (.inl rfl)) (.range1 (by decide +kernel) .ci) (.cons (.par2 .f .f rfl rfl (by decide) (by decide +kernel) (by decide +kernel) (by decide +kernel) rfl (.call 9 (by decide +kernel) rfl rfl (by decide +kernel) (.src rfl (.inl (by decide +kernel)) (by decide +kernel) (by decide +kernel) (.cons (.op .add (.b1 .len (by decide +kernel) (.nm rfl (.inl (by decide +kernel)) (by decide +kernel) (by decide +kernel))) .ci) .nil))) (.call 9 (by decide +kernel) rfl rfl (by decide +kernel) (.src rfl (.inl (by decide +kernel)) (by decide +kernel) (by decide +kernel) (.cons (.op .add (.b1 .len (by decide +kernel) (.nm rfl (.inl (by decide +kernel)) (by decide +kernel) (by decide +kernel))) .ci) .nil))) rfl rfl) (.cons (.set .f rfl (.inl (by decide +kernel)) (.op .add (.op .add (.slc (.nm rfl (.inl (by decide +kernel)) (by decide +kernel) (by decide +kernel)) .no (.yes (.nm rfl (.inl (by decide +kernel)) (by decide +kernel) (by decide +kernel)))) (.slc (.nm rfl (.inl (by decide +kernel)) (by decide +kernel) (by decide +kernel)) (.yes (.nm rfl (.inl (by decide +kernel)) (by decide +kernel) (by decide +kernel))) (.yes (.op .add (.nm rfl (.inl (by decide +kernel)) (by decide +kernel) (by decide +kernel)) .ci)))) (.slc (.nm rfl (.inl (by decide +kernel)) (by decide +kernel) (by decide +kernel)) (.yes (.nm rfl (.inl (by decide +kernel)) (by decide +kernel) (by decide +kernel))) .no)) (fun _ => rfl)) (.cons (.set .f rfl (.inl (by decide +kernel)) (.ite (.cmp .eq (.nm rfl (.inl (by decide +kernel)) (by decide +kernel) (by decide +kernel)) .ci rfl) (.call 10 (by decide +kernel) rfl rfl (by decide +kernel) (.src rfl (.inl (by decide +kernel)) (by decide +kernel) (by decide +kernel) (.cons (.nm rfl (.inl (by decide +kernel)) (by decide +kernel) (by decide +kernel)) .nil))) (.nm rfl (.inl (by decide +kernel)) (by decide +kernel) (by decide +kernel))) (fun _ => rfl)) (.cons (.set .f rfl (.inl (by decide +kernel)) (.op .add (.nm rfl (.inl (by decide +kernel)) (by decide +kernel) (by decide +kernel)) (.idx (.lst (.cons .ci (.cons .ci (.cons .ci (.cons .ci .nil))))) (.call 9 (by decide +kernel) rfl rfl (by decide +kernel) (.src rfl (.inl (by decide +kernel)) (by decide +kernel) (by decide +kernel) (.cons .ci .nil))) (fun _ _ => rfl))) (fun _ => rfl)) (.cons (.ite (.cmp .ne (.b1 .repr (by decide +kernel) (.call 8 (by decide +kernel) rfl rfl (by decide +kernel) (.cons (.b1 .tuple (by decide +kernel) (.nm rfl (.inl (by decide +kernel)) (by decide +kernel) (by decide +kernel))) (.cons (.nm rfl (.inl (by decide +kernel)) (by decide +kernel) (by decide +kernel)) .nil)))) (.b1 .repr (by decide +kernel) (.call 15 (by decide +kernel) rfl rfl (by decide +kernel) (.cons (.b1 .tuple (by decide +kernel) (.nm rfl (.inl (by decide +kernel)) (by decide +kernel) (by decide +kernel))) (.cons (.nm rfl (.inl (by decide +kernel)) (by decide +kernel) (by decide +kernel)) .nil)))) rfl) (.cons (.ret .cb) .nil) .nil) .nil))))) (fun _ _ => rfl)) (.cons (.ret .cb) .nil)))))))
def E_w_things_right : FE := ⟨"_law_things_right", 1, semOf F_16 false 12 M_w_things_right, false⟩
theorem S_w_things_right : FnScope N_w_things_right ["_law_source"] (defScope t_w_things_right) := ⟨rfl, rfl, rfl, by decide +kernel, rfl, by decide +kernel, by decide +kernel⟩
def F_17 : List FE := F_16 ++ [E_w_things_right]
theorem A_w_things_right : E_w_things_right.ar = 1 := rfl
/-! law -/
def N_law : List Str := ["_law_script", "_law_source", "_law_lap", "_law_twice"]
def M_law_1 : MSs := (.cons (.ite (.or_ (.not_ (.call 14 (.src 1 .nil))) (.or_ (.not_ (.call 16 (.src 1 .nil))) (.not_ (.call 16 (.src 1 .nil))))) (.cons (.ret (.k (.bool false))) .nil) .nil) .nil)
def M_law : MSs := (.cons (.for_ (.nm 2) (.range1 (.k (.int 3))) M_law_1) (.cons (.set 3 .f (.tup (.cons (.tup (.cons (.k (.str "barrier")) (.cons (.k (.int 1)) .nil))) (.cons (.tup (.cons (.k (.str "mark")) (.cons (.k (.int 4)) .nil))) (.cons (.tup (.cons (.k (.str "barrier")) (.cons (.k (.int 1)) .nil))) (.cons (.tup (.cons (.k (.str "mark")) (.cons (.k (.int 3)) .nil))) .nil)))))) (.cons (.ret (.cmp .eq (.lst (.cons (.call 5 (.cons (.nm 3) (.cons (.k (.int 1)) .nil))) (.cons (.call 6 (.cons (.nm 3) (.cons (.k (.int 1)) .nil))) (.cons (.call 8 (.cons (.nm 3) (.cons (.k (.int 0)) .nil))) (.cons (.call 7 (.cons (.tup .nil) .nil)) .nil))))) (.lst (.cons (.tup .nil) (.cons (.slc (.nm 3) (.yes (.k (.int 1))) .no) (.cons (.tup (.cons (.k (.str "barrier")) (.cons (.k (.int 2)) .nil))) (.cons (.tup .nil) .nil))))))) .nil)))
theorem T_law : TrSs F_17 gkL N_law (defScope t_law) (defBody t_law).tail M_law := (.cons (.for_ (.nm rfl (.inl (by decide +kernel)) (.inl rfl)) (.range1 (by decide +kernel) .ci) (.cons (.ite (.bo (o := .Or) (.cons (.not_ (.call 14 (by decide +kernel) rfl rfl (by decide +kernel) (.src rfl (.inl (by decide +kernel)) (by decide +kernel) (by decide +kernel) .nil))) (.cons (.not_ (.call 16 (by decide +kernel) rfl rfl (by decide +kernel) (.src rfl (.inl (by decide +kernel)) (by decide +kernel) (by decide +kernel) .nil))) (.one (.not_ (.call 16 (by decide +kernel) rfl rfl (by decide +kernel) (.src rfl (.inl (by decide +kernel)) (by decide +kernel) (by decide +kernel) .nil))))))) (.cons (.ret .cb) .nil) .nil) .nil) (fun _ _ => rfl)) (.cons (.set .f rfl (.inl (by decide +kernel)) (.tup (.cons (.tup (.cons .cs (.cons .ci .nil))) (.cons (.tup (.cons .cs (.cons .ci .nil))) (.cons (.tup (.cons .cs (.cons .ci .nil))) (.cons (.tup (.cons .cs (.cons .ci .nil))) .nil))))) (fun _ => rfl)) (.cons (.ret (.cmp .eq (.lst (.cons (.call 5 (by decide +kernel) rfl rfl (by decide +kernel) (.cons (.nm rfl (.inl (by decide +kernel)) (by decide +kernel) (by decide +kernel)) (.cons .ci .nil))) (.cons (.call 6 (by decide +kernel) rfl rfl (by decide +kernel) (.cons (.nm rfl (.inl (by decide +kernel)) (by decide +kernel) (by decide +kernel)) (.cons .ci .nil))) (.cons (.call 8 (by decide +kernel) rfl rfl (by decide +kernel) (.cons (.nm rfl (.inl (by decide +kernel)) (by decide +kernel) (by decide +kernel)) (.cons .ci .nil))) (.cons (.call 7 (by decide +kernel) rfl rfl (by decide +kernel) (.cons (.tup .nil) .nil)) .nil))))) (.lst (.cons (.tup .nil) (.cons (.slc (.nm rfl (.inl (by decide +kernel)) (by decide +kernel) (by decide +kernel)) (.yes .ci) .no) (.cons (.tup (.cons .cs (.cons .ci .nil))) (.cons (.tup .nil) .nil))))) rfl)) .nil)))
theorem P_02_1 : F_02[1]? = some E_is_held := rfl
theorem P_03_2 : F_03[2]? = some E_free_channels := rfl
theorem P_05_4 : F_05[4]? = some E_place_of := rfl
theorem P_06_4 : F_06[4]? = some E_place_of := rfl
theorem P_11_9 : F_11[9]? = some pickF := rfl
theorem P_12_9 : F_12[9]? = some pickF := rfl
theorem P_12_11 : F_12[11]? = some E_w_draw_value := rfl
theorem P_14_0 : F_14[0]? = some E_come := rfl
theorem P_14_1 : F_14[1]? = some E_is_held := rfl
theorem P_14_2 : F_14[2]? = some E_free_channels := rfl
theorem P_14_3 : F_14[3]? = some E_numbers_left := rfl
theorem P_14_9 : F_14[9]? = some pickF := rfl
theorem P_14_10 : F_14[10]? = some orderF := rfl
theorem P_14_13 : F_14[13]? = some barredF := rfl
theorem P_16_5 : F_16[5]? = some E_before := rfl
theorem P_16_6 : F_16[6]? = some E_behind := rfl
theorem P_16_7 : F_16[7]? = some E_numbers_in := rfl
theorem P_16_8 : F_16[8]? = some E_judge_channel := rfl
theorem P_16_9 : F_16[9]? = some pickF := rfl
theorem P_16_10 : F_16[10]? = some orderF := rfl
theorem P_16_12 : F_16[12]? = some E_w_draw_things := rfl
theorem P_16_15 : F_16[15]? = some E_w_fault := rfl
theorem P_17_5 : F_17[5]? = some E_before := rfl
theorem P_17_6 : F_17[6]? = some E_behind := rfl
theorem P_17_7 : F_17[7]? = some E_numbers_in := rfl
theorem P_17_8 : F_17[8]? = some E_judge_channel := rfl
theorem P_17_14 : F_17[14]? = some E_w_waiting_right := rfl
theorem P_17_16 : F_17[16]? = some E_w_things_right := rfl
end Os
end
section
set_option linter.all false
set_option maxRecDepth 100000
set_option maxHeartbeats 4000000
namespace Os
open PySem PySem.Spec PyProof.Rows L2
theorem sz0 : (0 ≤ sizeLine) = True := eq_true (by decide)
theorem sz1 : (1 ≤ sizeLine) = True := eq_true (by decide)
theorem sz2 : (2 ≤ sizeLine) = True := eq_true (by decide)
theorem sz3 : (3 ≤ sizeLine) = True := eq_true (by decide)
theorem sz4 : (4 ≤ sizeLine) = True := eq_true (by decide)
theorem sz5 : (5 ≤ sizeLine) = True := eq_true (by decide)
theorem sz8 : (8 ≤ sizeLine) = True := eq_true (by decide)
theorem lenT (xs : List D) : dB1 .len (.tuple xs) = some (.int xs.length) := rfl
theorem lenL (xs : List D) : dB1 .len (.list xs) = some (.int xs.length) := rfl
theorem dEqI (i j : Int) : dEq (.int i) (.int j) = some (decide (i = j)) := rfl
theorem dEqT (i j : Str) : dEq (.str i) (.str j) = some (decide (i = j)) := rfl
theorem tru_b (b : Bool) : tru (.bool b) = some b := rfl
/-! channels -/
def ch (k : Int) : D := .tuple [.tuple [.str "a", .int k], .int (k / 3), .tuple [.str "b", .int 0]]
def chs (L : List Int) : List D := L.map ch
def Sm (L : List Int) : Prop := ∀ k ∈ L, 0 ≤ k ∧ k < 6
theorem ch_tm {k : Int} (h : 0 ≤ k ∧ k < 6) : Tm 2 20 (ch k) := by
  have hi : ∀ i : Int, -10 ≤ i → i < 10 → i.natAbs < 10 ^ 12 := fun i _ _ => by omega
  refine Tm.tup (m := 4) (fun x hx => ?_) (by show 3 * 5 ≤ 20; decide)
  simp only [List.mem_cons, List.not_mem_nil, or_false] at hx
  rcases hx with rfl | rfl | rfl
  · refine Tm.tup (k := 0) (m := 1) (fun y hy => ?_) (by show 2 * 2 ≤ 4; decide)
    simp only [List.mem_cons, List.not_mem_nil, or_false] at hy
    rcases hy with rfl | rfl
    · exact Tm.str (by decide +kernel) (by decide +kernel)
    · exact Tm.int (hi _ (by omega) (by omega))
  · exact Tm.int (hi _ (by omega) (by omega))
  · refine Tm.tup (k := 0) (m := 1) (fun y hy => ?_) (by show 2 * 2 ≤ 4; decide)
    simp only [List.mem_cons, List.not_mem_nil, or_false] at hy
    rcases hy with rfl | rfl
    · exact Tm.str (by decide +kernel) (by decide +kernel)
    · exact Tm.int (hi _ (by omega) (by omega))
theorem chs_tm {L : List Int} (h : Sm L) : ∀ x ∈ chs L, Tm 2 20 x := by
  intro x hx
  obtain ⟨k, hk, rfl⟩ := List.mem_map.mp hx
  exact ch_tm (h k hk)
theorem ch_eqv (i j : Int) : PyData.eqv (ch j) (ch i) = (j == i) := by
  simp only [ch, PyData.eqv, PyData.eqvAll]
  by_cases h : j = i
  · subst h
    simp
  · have : (j == i) = false := by simpa using h
    simp [this]
theorem ch_any (i : Int) : ∀ L : List Int, (chs L).any (fun y => PyData.eqv y (ch i)) = L.contains i
  | [] => rfl
  | j :: L => by
    have ih := ch_any i L
    simp only [chs] at ih
    simp only [chs, List.map_cons, List.any_cons, ch_eqv, List.contains_cons, ih]
    rw [show (j == i) = (i == j) from BEq.comm]
theorem tmT {L : List Int} (h : Sm L) (hl : L.length ≤ 100) : Tm 3 2100 (.tuple (chs L)) := Tm.tup (chs_tm h) (by simp only [chs, List.length_map]; omega)
theorem tmL {L : List Int} (h : Sm L) (hl : L.length ≤ 100) : Tm 3 2100 (.list (chs L)) := Tm.list (chs_tm h) (by simp only [chs, List.length_map]; omega)
theorem dIn_ch {L : List Int} {i : Int} (h : Sm L) (hl : L.length ≤ 100) (hi : 0 ≤ i ∧ i < 6) : dIn (ch i) (.tuple (chs L)) = some (L.contains i) := by
  simp only [dIn]
  rw [if_pos ⟨(ch_tm hi).shaped (by decide), (tmT h hl).shaped (by decide)⟩, ch_any]
theorem dIn_chL {L : List Int} {i : Int} (h : Sm L) (hl : L.length ≤ 100) (hi : 0 ≤ i ∧ i < 6) : dIn (ch i) (.list (chs L)) = some (L.contains i) := by
  simp only [dIn]
  rw [if_pos ⟨(ch_tm hi).shaped (by decide), (tmL h hl).shaped (by decide)⟩, ch_any]
/-! sorted -/
def unch : D → Int
  | .tuple [.tuple [_, .int k], _, _] => k
  | _ => 0
theorem unch_ch (k : Int) : unch (ch k) = k := rfl
def srt (L : List Int) : List Int := ((chs L).mergeSort (PySem.W.dataLe false id)).map unch
theorem srt_ch (L : List Int) : chs (srt L) = (chs L).mergeSort (PySem.W.dataLe false id) := by
  have hp := List.mergeSort_perm (chs L) (PySem.W.dataLe false id)
  have : ∀ x ∈ (chs L).mergeSort (PySem.W.dataLe false id), ch (unch x) = x := fun x hx => by
    obtain ⟨k, _, rfl⟩ := List.mem_map.mp (hp.mem_iff.mp hx)
    rfl
  unfold chs srt
  rw [List.map_map]
  conv => rhs; rw [← List.map_id ((List.map ch L).mergeSort (PySem.W.dataLe false id))]
  exact List.map_congr_left fun x hx => this x hx
theorem srt_perm (L : List Int) : (srt L).Perm L := by
  have hp := (List.mergeSort_perm (chs L) (PySem.W.dataLe false id)).map unch
  have e : (chs L).map unch = L := by
    unfold chs
    rw [List.map_map]
    exact (List.map_congr_left fun x _ => unch_ch x).trans (List.map_id L)
  rw [e] at hp
  exact hp
theorem srt_dS {L : List Int} (h : Sm L) (hl : L.length ≤ 100) : dSorted (chs L) = some (chs (srt L)) := by
  unfold dSorted
  rw [if_pos, srt_ch]
  refine ⟨?_, by simp only [chs, List.length_map]; have : sizeLine = 16777216 := sizeLine_eq; omega⟩
  unfold alikeL
  simp only [Bool.and_eq_true, Bool.or_eq_true, List.all_eq_true]
  refine ⟨⟨fun x hx y hy => ?_, .inl fun x hx => ?_⟩, fun x hx => ?_⟩
  · obtain ⟨i, _, rfl⟩ := List.mem_map.mp hx
    obtain ⟨j, _, rfl⟩ := List.mem_map.mp hy
    rfl
  · obtain ⟨i, _, rfl⟩ := List.mem_map.mp hx
    rfl
  · have := (chs_tm h x hx).dp
    exact decide_eq_true (by omega)
theorem sm_srt {L : List Int} (h : Sm L) : Sm (srt L) := fun k hk => h k ((srt_perm L).mem_iff.mp hk)
theorem sm_snoc {L : List Int} {i : Int} (h : Sm L) (hi : 0 ≤ i ∧ i < 6) : Sm (L ++ [i]) := fun k hk => by
  rcases List.mem_append.mp hk with e | e
  · exact h k e
  · rw [List.mem_singleton.mp e]
    exact hi

/-! the program's defs -/
def wD : Option (Int × List Int) → D
  | none => .none
  | some (n, L) => .tuple [.int n, .tuple (chs L)]
def held : Option (Int × List Int) → Int → Bool
  | none, _ => false
  | some (_, L), c => L.contains c
def WOk : Option (Int × List Int) → Prop
  | none => True
  | some (n, L) => Sm L ∧ L.length ≤ 100 ∧ n.natAbs < 1000
theorem is_held_sem {W : Option (Int × List Int)} {c : Int} {s : S1} (h : WOk W) (hc : 0 ≤ c ∧ c < 6) : E_is_held.sem [.d (wD W), .d (ch c)] s = some (.bool (held W c), s) := by
  cases W with
  | none => simp [E_is_held, M_is_held, wD, held, runs, run, ev, evs, eva, evo, evt, evi, evM, slotOf, vw, SS.f, SS.r, argS, semOf, dCmp, tru, isNone, dIdx, bindS, bindT, wipeS, seqOf, dB1, Option.bind, Option.map]
  | some p =>
    obtain ⟨n, L⟩ := p
    have e := dIn_ch h.1 h.2.1 hc
    simp [E_is_held, M_is_held, wD, held, runs, run, ev, evs, eva, evo, evt, evi, evM, slotOf, vw, SS.f, SS.r, argS, semOf, dCmp, tru, isNone, dIdx, bindS, bindT, wipeS, seqOf, dB1, Option.bind, Option.map, atI, ixN, e]
def fcs (W : Option (Int × List Int)) (C : List Int) : List Int := C.filter fun c => !held W c
theorem filt_chs (C : List Int) (p : Int → Bool) (q : D → Bool) (h : ∀ k ∈ C, q (ch k) = p k) : ((chs C).filter q).map id = chs (C.filter p) := by
  rw [List.map_id]
  induction C with
  | nil => rfl
  | cons k C ih =>
    have ih' := ih fun j hj => h j (List.mem_cons_of_mem _ hj)
    simp only [chs, List.map_cons, List.filter_cons, h k List.mem_cons_self] at ih' ⊢
    split
    · rw [List.map_cons, ih']
    · exact ih'
theorem chs_len (L : List Int) : (chs L).length = L.length := by simp [chs]
theorem chs_z {L : List Int} (h : L.length ≤ 100) : (chs L).length ≤ sizeLine := by
  have : sizeLine = 16777216 := sizeLine_eq
  rw [chs_len]
  omega
theorem fcs_len (W : Option (Int × List Int)) (C : List Int) : (fcs W C).length ≤ C.length := List.length_filter_le _ _
theorem free_core {W : Option (Int × List Int)} {C : List Int} {x : D} {s : S1} (h : WOk W) (hC : Sm C) (hl : C.length ≤ 100) (hx : seqOf x = some (chs C)) : E_free_channels.sem [.d (wD W), .d x] s = some (.list (chs (fcs W C)), s) := by
  refine sem_rt [.frz (wD W), .frz x, .un] rfl (runs_rt (run_ret (ev_comp (xs := chs C) (s1 := s) ?_ ?_ (chs_z (Nat.le_trans (fcs_len W C) hl)))))
  · simp [evi, ev, SS.r, hx, Option.bind, Option.map]
  · rw [compRun_pure (fun d => !held W (unch d)) id fun d hd => ?_, filt_chs C (fun c => !held W c) _ fun k _ => by rw [unch_ch]]
    · rfl
    · obtain ⟨k, hk, rfl⟩ := List.mem_map.mp hd
      have e := is_held_sem (W := W) (s := s) h (hC k hk)
      refine ⟨[.d (wD W), .d x, .d (ch k)], by simp [bindT, wipeS, SS.r], ?_, fun _ => by simp [ev]⟩
      simp [evt, ev, eva, P_02_1, A_is_held, tru, unch_ch, e]
      cases held W k <;> rfl
theorem left_core {W : Option (Int × List Int)} {C : List Int} {x : D} {s : S1} (h : WOk W) (hC : Sm C) (hl : C.length ≤ 100) (hx : seqOf x = some (chs C)) : E_numbers_left.sem [.d (wD W), .d x] s = some (.list (chs (if W.isNone then [] else fcs W C)), s) := by
  have e := free_core (s := s) h hC hl hx
  refine sem_rt [.frz (wD W), .frz x] rfl (runs_rt (run_ret ?_))
  cases W with
  | none =>
    have hz : 0 ≤ sizeLine := Nat.zero_le _
    simp [ev, evs, SS.r, wD, isNone, tru, chs, Option.bind, Option.map]
  | some p =>
    simp [ev, eva, SS.r, wD, isNone, tru, P_03_2, A_free_channels, Option.bind, Option.map] at e ⊢
    rw [e]
/-! come -/
def comeD (n : Int) (L : List Int) (m : Nat) : D := if (L.length = m) then .tuple [.none, .bool true] else .tuple [.tuple [.int n, .tuple (chs L)], .bool false]
def wL : Option (Int × List Int) → List Int
  | none => []
  | some (_, L) => L
theorem sEq_len {x : D} {L : List D} (hx : seqOf x = some L) : dB1 .len x = some (.int L.length) := by
  cases x <;> simp [seqOf] at hx
  · subst hx; rfl
  · subst hx; rfl
theorem come_sem {W : Option (Int × List Int)} {C : List Int} {x : D} {c n : Int} {s : S1} (h : WOk W) (hn : ∀ m L, W = some (m, L) → m = n) (hl : (wL W).length ≤ 90) (hc : 0 ≤ c ∧ c < 6) (hnot : (wL W).contains c = false) (hx : seqOf x = some (chs C)) :
    E_come.sem [.d (wD W), .d x, .d (ch c), .d (.int n)] s = some (comeD n (srt (wL W ++ [c])) C.length, s) := by
  have hL : Sm (wL W) := by
    cases W with
    | none => exact fun k hk => nomatch hk
    | some p => exact h.1
  refine sem_rt [.frz (wD W), .frz x, .frz (ch c), .frz (.int n), .un, .un] rfl ?_
  refine runs_nx [.frz (wD W), .frz x, .frz (ch c), .frz (.int n), .frz (.int n), .frz (.tuple (chs (wL W)))] s ?_ ?_
  · cases W with
    | none => simp [run, evM, ev, evs, vw, SS.f, wD, isNone, tru, slotOf, bindS, Option.bind, Option.map, wL, chs, sz0, sz2]
    | some p =>
      obtain ⟨m, L⟩ := p
      obtain rfl := hn m L rfl
      simp [run, evM, ev, evs, vw, SS.f, wD, isNone, tru, slotOf, bindS, Option.bind, Option.map, wL]
  refine runs_nx _ s (run_skip ?_) ?_
  · have e := dIn_ch hL (by omega) hc
    simp [ev, SS.r, dCmp, dEq, tru, Option.bind, Option.map, e, hnot]
    intro z
    simp at hnot
    exact hnot z
  refine runs_nx [.frz (wD W), .frz x, .frz (ch c), .frz (.int n), .frz (.int n), .frz (.tuple (chs (srt (wL W ++ [c]))))] s (run_set (d := .tuple (chs (srt (wL W ++ [c])))) ?_ rfl (by simp)) ?_
  · have e := srt_dS (sm_snoc hL hc) (by rw [List.length_append]; show _ + 1 ≤ 100; omega)
    have ec : chs (wL W) ++ [ch c] = chs (wL W ++ [c]) := by simp [chs]
    have hz : (chs (wL W ++ [c])).length ≤ sizeLine := chs_z (by rw [List.length_append]; show _ + 1 ≤ 100; omega)
    simp [ev, evs, vw, SS.f, seqOf, Option.bind, Option.map, ec, hz, dB1, e]
  have el := sEq_len hx
  have hlc : ((chs C).length : Int) = (C.length : Nat) := by rw [chs_len]
  have hls : ((chs (srt (wL W ++ [c]))).length : Int) = ((srt (wL W ++ [c])).length : Nat) := by rw [chs_len]
  by_cases hq : (srt (wL W ++ [c])).length = C.length
  · refine runs_rt (run_t (x := .bool true) (s1 := s) ?_ rfl (runs_rt (run_ret ?_)))
    · simp [ev, SS.r, Option.bind, Option.map, dCmp, lenT, el, dEqI, chs_len, hq]
    · simp [ev, evs, comeD, hq, Option.bind, Option.map, sz2]
  · refine runs_nx _ s (run_f (x := .bool false) (s1 := s) ?_ rfl rfl) (runs_rt (run_ret ?_))
    · simp [ev, SS.r, Option.bind, Option.map, dCmp, lenT, el, dEqI, chs_len, hq]
      omega
    · simp [ev, evs, SS.r, comeD, hq, Option.bind, Option.map, sz2]
end Os
end
section
set_option linter.all false
set_option maxRecDepth 100000
set_option maxHeartbeats 4000000
namespace Os
open PySem PySem.Spec PyProof.Rows L2
def wOf (n : Int) (L : List Int) : Option (Int × List Int) := if L = [] then none else some (n, L)
theorem held_wOf (n : Int) (L : List Int) (c : Int) : held (wOf n L) c = L.contains c := by
  unfold wOf
  split
  · rename_i h
    subst h
    rfl
  · rfl
theorem wL_wOf (n : Int) (L : List Int) : wL (wOf n L) = L := by
  unfold wOf
  split
  · rename_i h
    exact h.symm
  · rfl
theorem none_wOf (n : Int) (L : List Int) : (wOf n L).isNone = L.isEmpty := by
  unfold wOf
  cases L <;> rfl
theorem wOk_wOf {n : Int} {L : List Int} (h : Sm L) (hl : L.length ≤ 100) (hn : n.natAbs < 1000) : WOk (wOf n L) := by
  unfold wOf
  split
  · trivial
  · exact ⟨h, hl, hn⟩
theorem wOf_n {n m : Int} {L K : List Int} (h : wOf n L = some (m, K)) : m = n := by
  unfold wOf at h
  split at h
  · cases h
  · cases h
    rfl
theorem fcs_wOf (n : Int) (L C : List Int) : fcs (wOf n L) C = C.filter fun c => !L.contains c := by
  unfold fcs
  congr
  funext c
  rw [held_wOf]
def wr (w : D) (n : Int) (cm : D) (C : List Int) (x2 x5 x7 x8 x9 x10 x11 x12 x13 x14 x15 : SS) : LSS := [.src, .frz (.list (chs C)), x2, .frz w, .frz (.int n), x5, .frz cm, x7, x8, x9, x10, x11, x12, x13, x14, x15]
theorem wD_tm {n : Int} {L : List Int} (h : Sm L) (hl : L.length ≤ 100) (hn : n.natAbs < 1000) : Tm 4 5000 (wD (wOf n L)) := by
  unfold wOf
  split
  · exact Tm.none
  · refine Tm.tup (m := 2100) (fun x hx => ?_) (by show 2 * 2101 ≤ 5000; decide)
    simp only [List.mem_cons, List.not_mem_nil, or_false] at hx
    rcases hx with rfl | rfl
    · exact Tm.int (by omega)
    · exact tmT h hl
theorem pair_tm {x y : D} {k n : Nat} (h : Tm k n x) (h2 : Tm k n y) : Tm (k + 1) (2 * (n + 1)) (.list [x, y]) := Tm.list (m := n) (fun z hz => by
    simp only [List.mem_cons, List.not_mem_nil, or_false] at hz
    rcases hz with rfl | rfl
    · exact h
    · exact h2) (Nat.le_refl _)
theorem sm_filter {C : List Int} (h : Sm C) (p : Int → Bool) : Sm (C.filter p) := fun k hk => h k (List.mem_filter.mp hk).1
theorem free_comp {came C : List Int} {ρ : LS} {s : S1} (hρ : ρ[1]? = some (.d (.list (chs C)))) (h6 : ρ[6]? = some (.d (.list (chs came)))) (h10 : 10 < ρ.length) (hC : Sm C) (hl : C.length ≤ 100) (hcm : Sm came) (hcl : came.length ≤ 100) :
    ev F_14 (.comp (.nm 10) (.nm 10) (.seq (.nm 1)) (.cons (.cmp .notin (.nm 10) (.nm 6)) .nil) [10]) ρ s = some (.list (chs (C.filter fun c => !came.contains c)), s) := by
  refine ev_comp (xs := chs C) (s1 := s) ?_ ?_ (chs_z (Nat.le_trans (List.length_filter_le _ _) hl))
  · simp [evi, ev, hρ, seqOf, Option.bind, Option.map]
  · rw [compRun_pure (fun d => !came.contains (unch d)) id fun d hd => ?_, filt_chs C (fun c => !came.contains c) _ fun k _ => by rw [unch_ch]]
    obtain ⟨k, hk, rfl⟩ := List.mem_map.mp hd
    have e := dIn_chL hcm hcl (hC k hk)
    have e10 : ((ρ.set 10 SL.un).set 10 (SL.d (ch k)))[10]? = some (SL.d (ch k)) := by
      rw [List.getElem?_set_self]
      rw [List.length_set]
      exact h10
    have e6 : ((ρ.set 10 SL.un).set 10 (SL.d (ch k)))[6]? = some (.d (.list (chs came))) := by
      rw [List.getElem?_set_ne (by decide), List.getElem?_set_ne (by decide)]
      exact h6
    refine ⟨(ρ.set 10 SL.un).set 10 (SL.d (ch k)), by simp [bindT, wipeS, h10], ?_, fun _ => ?_⟩
    · simp only [evt, ev, e10, e6, Option.bind, dCmp, e, Option.map, tru_b, unch_ch]
      cases came.contains k <;> rfl
    · simp only [ev, e10, id]
theorem isin_comp {came C : List Int} {ρ : LS} {s : S1} (hρ : ρ[1]? = some (.d (.list (chs C)))) (h6 : ρ[6]? = some (.d (.list (chs came)))) (h10 : 10 < ρ.length) (hC : Sm C) (hl : C.length ≤ 100) (hcm : Sm came) (hcl : came.length ≤ 100) :
    ev F_14 (.comp (.cmp .isin (.nm 10) (.nm 6)) (.nm 10) (.seq (.nm 1)) .nil [10]) ρ s = some (.list (C.map fun c => .bool (came.contains c)), s) := by
  refine ev_comp (xs := chs C) (s1 := s) ?_ ?_ (by have := chs_z hl; rw [chs_len] at this; simpa using this)
  · simp [evi, ev, hρ, seqOf, Option.bind, Option.map]
  · rw [compRun_map (fun d => .bool (came.contains (unch d))) fun d hd => ?_]
    · rw [chs, List.map_map]
      rfl
    obtain ⟨k, hk, rfl⟩ := List.mem_map.mp hd
    have e := dIn_chL hcm hcl (hC k hk)
    have e10 : ((ρ.set 10 SL.un).set 10 (SL.d (ch k)))[10]? = some (SL.d (ch k)) := by
      rw [List.getElem?_set_self]
      rw [List.length_set]
      exact h10
    have e6 : ((ρ.set 10 SL.un).set 10 (SL.d (ch k)))[6]? = some (.d (.list (chs came))) := by
      rw [List.getElem?_set_ne (by decide), List.getElem?_set_ne (by decide)]
      exact h6
    refine ⟨(ρ.set 10 SL.un).set 10 (SL.d (ch k)), by simp [bindT, wipeS, h10], by simp [evt], ?_⟩
    simp only [ev, e10, e6, Option.bind, dCmp, e, Option.map, unch_ch]
theorem held_comp {W : Option (Int × List Int)} {C : List Int} {ρ : LS} {s : S1} (hρ : ρ[1]? = some (.d (.list (chs C)))) (h3 : ρ[3]? = some (.d (wD W))) (h10 : 10 < ρ.length) (hC : Sm C) (hl : C.length ≤ 100) (hW : WOk W) :
    ev F_14 (.comp (.call 1 (.cons (.nm 3) (.cons (.nm 10) .nil))) (.nm 10) (.seq (.nm 1)) .nil [10]) ρ s = some (.list (C.map fun c => .bool (held W c)), s) := by
  refine ev_comp (xs := chs C) (s1 := s) ?_ ?_ (by have := chs_z hl; rw [chs_len] at this; simpa using this)
  · simp [evi, ev, hρ, seqOf, Option.bind, Option.map]
  · rw [compRun_map (fun d => .bool (held W (unch d))) fun d hd => ?_]
    · rw [chs, List.map_map]
      rfl
    obtain ⟨k, hk, rfl⟩ := List.mem_map.mp hd
    have e := is_held_sem (s := s) hW (hC k hk)
    have e10 : ((ρ.set 10 SL.un).set 10 (SL.d (ch k)))[10]? = some (SL.d (ch k)) := by
      rw [List.getElem?_set_self]
      rw [List.length_set]
      exact h10
    have e3 : ((ρ.set 10 SL.un).set 10 (SL.d (ch k)))[3]? = some (.d (wD W)) := by
      rw [List.getElem?_set_ne (by decide), List.getElem?_set_ne (by decide)]
      exact h3
    refine ⟨(ρ.set 10 SL.un).set 10 (SL.d (ch k)), by simp [bindT, wipeS, h10], by simp [evt], ?_⟩
    simp only [ev, eva, e10, e3, P_14_1, A_is_held, Option.bind, Option.map, e, unch_ch, List.length_cons, List.length_nil]
    rfl
end Os
end
section
set_option linter.all false
set_option maxRecDepth 100000
set_option maxHeartbeats 4000000
namespace Os
open PySem PySem.Spec PyProof.Rows L2
section
variable {Φ : List FE} {ρ : LSS} {ρ' : LS} {s s1 s2 : S1} {d x y z : D}
theorem run_par2 {i j : Nat} {m1 m2 : Mode} {e1 e2 : ME} {a b : SS} (h1 : ev Φ e1 (vw m1 ρ) s = some (d, s1)) (g1 : slotOf Φ m1 e1 d = some a) (h2 : ev Φ e2 (vw m2 ρ) s1 = some (x, s2)) (g2 : slotOf Φ m2 e2 x = some b) (h : i < ρ.length ∧ j < ρ.length ∧ i ≠ j) : run Φ (.par2 i j m1 m2 e1 e2) ρ s = some (.nx ((ρ.set i a).set j b) s2) := by
  rw [run, evM, h1]
  simp only [Option.bind, g1, Option.map, evM, h2, g2]
  rw [if_pos h]
theorem ev_b1 {f : B1} {e : ME} (h : ev Φ e ρ' s = some (d, s1)) (hr : dB1 f d = some x) : ev Φ (.b1 f e) ρ' s = some (x, s1) := by
  rw [ev, h]
  simp only [Option.bind, hr, Option.map]
theorem ev_ne {a b : ME} (h1 : ev Φ a ρ' s = some (.str x', s1)) (h2 : ev Φ b ρ' s1 = some (.str x', s2)) : ev Φ (.cmp .ne a b) ρ' s = some (.bool false, s2) := by
  rw [ev, h1]
  simp only [Option.bind, h2, dCmp, dEqT, Option.map, decide_true, Bool.not_true]
theorem ev_cmp {o : CO} {a b : ME} {k : Bool} (h1 : ev Φ a ρ' s = some (x, s1)) (h2 : ev Φ b ρ' s1 = some (y, s2)) (h : dCmp o x y = some k) : ev Φ (.cmp o a b) ρ' s = some (.bool k, s2) := by
  rw [ev, h1]
  simp only [Option.bind, h2, h, Option.map]
theorem ev_or {a b : ME} {k : Bool} (h1 : ev Φ a ρ' s = some (.bool false, s1)) (h2 : ev Φ b ρ' s1 = some (.bool k, s2)) : ev Φ (.or_ a b) ρ' s = some (.bool k, s2) := by
  rw [ev, h1]
  simp only [Option.bind, tru, Bool.false_eq_true, if_false, h2]
theorem ev_and_f {a b : ME} (h1 : ev Φ a ρ' s = some (.bool false, s1)) : ev Φ (.and_ a b) ρ' s = some (.bool false, s1) := by
  rw [ev, h1]
  simp only [Option.bind, tru, Bool.false_eq_true, if_false]
theorem ev_and_t {a b : ME} (h1 : ev Φ a ρ' s = some (.bool true, s1)) (h2 : ev Φ b ρ' s1 = some (x, s2)) : ev Φ (.and_ a b) ρ' s = some (x, s2) := by
  rw [ev, h1]
  simp only [Option.bind, tru, if_true, h2]
theorem ev_lst2 {a b : ME} (h1 : ev Φ a ρ' s = some (x, s1)) (h2 : ev Φ b ρ' s1 = some (y, s2)) : ev Φ (.lst (.cons a (.cons b .nil))) ρ' s = some (.list [x, y], s2) := by
  simp [ev, evs, h1, h2, Option.bind, Option.map, sz2]
theorem ev_lst1 {a : ME} (h1 : ev Φ a ρ' s = some (x, s1)) : ev Φ (.lst (.cons a .nil)) ρ' s = some (.list [x], s1) := by
  simp [ev, evs, h1, Option.bind, Option.map, sz1]
theorem ev_lst3 {a b c : ME} {s3 : S1} (h1 : ev Φ a ρ' s = some (x, s1)) (h2 : ev Φ b ρ' s1 = some (y, s2)) (h3 : ev Φ c ρ' s2 = some (z, s3)) : ev Φ (.lst (.cons a (.cons b (.cons c .nil)))) ρ' s = some (.list [x, y, z], s3) := by
  simp [ev, evs, h1, h2, h3, Option.bind, Option.map, sz3]
theorem ev_nm {i : Nat} (h : ρ'[i]? = some (.d x)) : ev Φ (.nm i) ρ' s = some (x, s) := by
  rw [ev, h]
theorem ev_ite_t {c a b : ME} (h : ev Φ c ρ' s = some (.bool true, s1)) {R : Option (D × S1)} (k : ev Φ a ρ' s1 = R) : ev Φ (.ite c a b) ρ' s = R := by
  rw [ev, h]
  simp only [Option.bind, tru, if_true]
  exact k
theorem ev_ite_f {c a b : ME} (h : ev Φ c ρ' s = some (.bool false, s1)) {R : Option (D × S1)} (k : ev Φ b ρ' s1 = R) : ev Φ (.ite c a b) ρ' s = R := by
  rw [ev, h]
  simp only [Option.bind, tru, Bool.false_eq_true, if_false]
  exact k
theorem ev_call {f : Nat} {as : MAs} {F : FE} {xs : List SL} {R : Option (D × S1)} (h : eva Φ as ρ' s = some (xs, s1)) (hf : Φ[f]? = some F) (hl : xs.length = F.ar) (k : F.sem xs s1 = R) : ev Φ (.call f as) ρ' s = R := by
  rw [ev, h]
  simp only [Option.bind, hf, hl, if_true]
  exact k
theorem eva_nil : eva Φ .nil ρ' s = some ([], s) := rfl
theorem eva_cons {e : ME} {r : MAs} {xs : List SL} (h : ev Φ e ρ' s = some (x, s1)) (h2 : eva Φ r ρ' s1 = some (xs, s2)) : eva Φ (.cons e r) ρ' s = some (.d x :: xs, s2) := by
  rw [eva, h]
  simp only [Option.bind, h2, Option.map]
theorem eva_src {i : Nat} {r : MAs} {xs : List SL} (h : ρ'[i]? = some .src) (h2 : eva Φ r ρ' s = some (xs, s2)) : eva Φ (.src i r) ρ' s = some (.src :: xs, s2) := by
  rw [eva, h]
  simp only [h2, Option.map]
end
/-- the draw -/
theorem pick_sem {n : Int} {S : Src} (h : n < 1073741824) : pickF.sem [.src, .d (.int n)] (some S) = some (.int (pickS n S).1, some (pickS n S).2) := by
  simp only [pickF]
  rw [if_pos h]

/-! ### one turn -/
section
variable {C came : List Int} {n c : Int} {S : Src} {x2 x5 x8 x9 x10 x11 x12 x13 x14 x15 : SS}
theorem wt0 (hC : Sm C) (hl : C.length ≤ 6) (hcm : Sm came) (hcl : came.length ≤ 6) (hn : n.natAbs < 1000) : dRepr (.list [wD (wOf n came), .list (chs C)]) = some (.str (PyData.shown (.list [wD (wOf n came), .list (chs C)]))) :=
  (pair_tm (wD_tm hcm (by omega) hn) ((tmL hC (by omega)).mono (by decide) (by decide : 2100 ≤ 5000))).repr (by decide) (by decide)
theorem evShown {ρ : LS} {s : S1} (hC : Sm C) (hl : C.length ≤ 6) (hcm : Sm came) (hcl : came.length ≤ 6) (hn : n.natAbs < 1000) (h1 : ρ[1]? = some (.d (.list (chs C)))) (h3 : ρ[3]? = some (.d (wD (wOf n came)))) :
    ev F_14 (.b1 .repr (.lst (.cons (.nm 3) (.cons (.nm 1) .nil)))) ρ s = some (.str (PyData.shown (.list [wD (wOf n came), .list (chs C)])), s) :=
  ev_b1 (ev_lst2 (ev_nm h3) (ev_nm h1)) (wt0 hC hl hcm hcl hn)
theorem isnil_cmp {ρ : LS} {s : S1} (hcm : Sm came) (hcl : came.length ≤ 6) (h6 : ρ[6]? = some (.d (.list (chs came)))) : ev F_14 (.cmp .ne (.nm 6) (.lst .nil)) ρ s = some (.bool (!came.isEmpty), s) := by
  refine ev_cmp (y := .list []) (ev_nm h6) (by simp [ev, evs, sz0]) ?_
  have e : dEq (.list (chs came)) (.list []) = some came.isEmpty := by
    simp only [dEq]
    rw [if_pos ⟨(tmL hcm (by omega)).shaped (by decide), by decide +kernel⟩]
    cases came <;> simp [PyData.eqv, PyData.eqvAll, chs]
  simp only [dCmp, e, Option.map]
theorem barred_in {W : Option (Int × List Int)} {x : D} {s : S1} {k m : Int} (hW : W = some (n, came)) (hcm : Sm came) (hcl : came.length ≤ 6) (hk : 0 ≤ k ∧ k < 6) (h : m ≠ n ∨ came.contains k = true) : barredF.sem [.d (wD W), .d x, .d (ch k), .d (.int m)] s = some (.list [.int m], s) := by
  subst hW
  have e := dIn_ch hcm (by omega) hk
  simp only [barredF, wD, dEqI, e]
  rw [if_pos]
  rcases h with h | h
  · left
    rw [decide_eq_false (Ne.symm h)]
  · by_cases hm : n = m
    · right
      exact ⟨by rw [decide_eq_true hm], by rw [h]⟩
    · left
      rw [decide_eq_false hm]
theorem one_ne {m : Int} (hm : m.natAbs < 100000) : dCmp .ne (.list [.int m]) (.list [.int m]) = some false := by
  have t : Tm 1 10 (.list [.int m]) := Tm.list (k := 0) (m := 0) (fun z hz => by rw [List.mem_singleton.mp hz]; exact Tm.int (by omega)) (by show 1 * 1 ≤ 10; decide)
  simp only [dCmp, dEq]
  rw [if_pos ⟨t.shaped (by decide), t.shaped (by decide)⟩, t.eqv]
  rfl
end
end Os
end
section
set_option linter.all false
set_option maxRecDepth 100000
set_option maxHeartbeats 4000000
namespace Os
open PySem PySem.Spec PyProof.Rows L2
theorem free_sem {W : Option (Int × List Int)} {C : List Int} {ρ : LS} {s : S1} (h : WOk W) (hC : Sm C) (hl : C.length ≤ 100) (h1 : ρ[1]? = some (.d (.list (chs C)))) (h3 : ρ[3]? = some (.d (wD W))) : ev F_14 (.call 2 (.cons (.nm 3) (.cons (.nm 1) .nil))) ρ s = some (.list (chs (fcs W C)), s) :=
  ev_call (eva_cons (ev_nm h3) (eva_cons (ev_nm h1) eva_nil)) P_14_2 rfl (free_core h hC hl rfl)
theorem free_semT {W : Option (Int × List Int)} {C : List Int} {ρ : LS} {s : S1} (h : WOk W) (hC : Sm C) (hl : C.length ≤ 100) (h1 : ρ[1]? = some (.d (.list (chs C)))) (h3 : ρ[3]? = some (.d (wD W))) : ev F_14 (.call 2 (.cons (.nm 3) (.cons (.b1 .tuple (.nm 1)) .nil))) ρ s = some (.list (chs (fcs W C)), s) :=
  ev_call (eva_cons (ev_nm h3) (eva_cons (ev_b1 (ev_nm h1) rfl) eva_nil)) P_14_2 rfl (free_core h hC hl rfl)
theorem left_sem {W : Option (Int × List Int)} {C : List Int} {ρ : LS} {s : S1} (h : WOk W) (hC : Sm C) (hl : C.length ≤ 100) (h1 : ρ[1]? = some (.d (.list (chs C)))) (h3 : ρ[3]? = some (.d (wD W))) : ev F_14 (.call 3 (.cons (.nm 3) (.cons (.nm 1) .nil))) ρ s = some (.list (chs (if W.isNone then [] else fcs W C)), s) :=
  ev_call (eva_cons (ev_nm h3) (eva_cons (ev_nm h1) eva_nil)) P_14_3 rfl (left_core h hC hl rfl)
def frees (n : Int) (came C : List Int) : List Int := C.filter fun c => !came.contains c
def leftL (came C : List Int) : List Int := if came.isEmpty then [] else C.filter fun c => !came.contains c
theorem tri_tm {A B : List Int} (hA : Sm A) (hB : Sm B) (lA : A.length ≤ 100) (lB : B.length ≤ 100) : Tm 4 7000 (.list [.list (chs A), .list (chs B), .list (chs A)]) := Tm.list (m := 2100) (fun z hz => by
    simp only [List.mem_cons, List.not_mem_nil, or_false] at hz
    rcases hz with rfl | rfl | rfl
    · exact tmL hA lA
    · exact tmL hB lB
    · exact tmL hA lA) (by show 3 * 2101 ≤ 7000; decide)
theorem bools_tm {f : Int → Bool} {C : List Int} (hl : C.length ≤ 100) : Tm 1 100 (.list (C.map fun c => .bool (f c))) := Tm.list (k := 0) (m := 0) (fun z hz => by
    obtain ⟨c, _, rfl⟩ := List.mem_map.mp hz
    exact Tm.bool _) (by rw [List.length_map]; omega)
theorem late_run {C came : List Int} {n c : Int} {s : S1} {x2 x5 x8 x9 x10 x11 x12 x14 x15 : SS} (hne : came ≠ []) (hcm : Sm came) (hcl : came.length ≤ 6) (hc : 0 ≤ c ∧ c < 6) (hn : n.natAbs < 1000) (late : List Int) (hlate : ∀ m ∈ late, m ≠ n ∧ m.natAbs < 10000) : ∀ x13, ∃ y13,
    forRun (runs F_14 M_w_waiting_right_1) (.nm 13) (late.map .int) (wr (wD (wOf n came)) n (.list (chs came)) C x2 x5 (.frz (ch c)) x8 x9 x10 x11 x12 x13 x14 x15) s = some (.nx (wr (wD (wOf n came)) n (.list (chs came)) C x2 x5 (.frz (ch c)) x8 x9 x10 x11 x12 y13 x14 x15) s) := by
  have hW : wOf n came = some (n, came) := if_neg hne
  induction late with
  | nil => exact fun x13 => ⟨x13, rfl⟩
  | cons m late ih =>
    intro x13
    obtain ⟨y13, h⟩ := ih (fun k hk => hlate k (List.mem_cons_of_mem _ hk)) (.frz (.int m))
    refine ⟨y13, ?_⟩
    have hm := hlate m List.mem_cons_self
    have e : run F_14 (.ite (.cmp .ne (.call 13 (.cons (.nm 3) (.cons (.nm 1) (.cons (.nm 7) (.cons (.nm 13) .nil))))) (.lst (.cons (.nm 13) .nil))) (.cons (.ret (.k (.bool false))) .nil) .nil) (wr (wD (wOf n came)) n (.list (chs came)) C x2 x5 (.frz (ch c)) x8 x9 x10 x11 x12 (.frz (.int m)) x14 x15) s = some (.nx (wr (wD (wOf n came)) n (.list (chs came)) C x2 x5 (.frz (ch c)) x8 x9 x10 x11 x12 (.frz (.int m)) x14 x15) s) :=
      run_skip (ev_cmp (ev_call (eva_cons (ev_nm rfl) (eva_cons (ev_nm rfl) (eva_cons (ev_nm rfl) (eva_cons (ev_nm rfl) eva_nil)))) P_14_13 rfl (barred_in hW hcm hcl hc (.inl hm.1))) (ev_lst1 (ev_nm rfl)) (one_ne (by omega)))
    have eb : runs F_14 M_w_waiting_right_1 (wr (wD (wOf n came)) n (.list (chs came)) C x2 x5 (.frz (ch c)) x8 x9 x10 x11 x12 (.frz (.int m)) x14 x15) s = some (.nx (wr (wD (wOf n came)) n (.list (chs came)) C x2 x5 (.frz (ch c)) x8 x9 x10 x11 x12 (.frz (.int m)) x14 x15) s) := runs_nx _ _ e rfl
    have eb1 : bindS (.nm 13) (.int m) (wr (wD (wOf n came)) n (.list (chs came)) C x2 x5 (.frz (ch c)) x8 x9 x10 x11 x12 x13 x14 x15) = some (wr (wD (wOf n came)) n (.list (chs came)) C x2 x5 (.frz (ch c)) x8 x9 x10 x11 x12 (.frz (.int m)) x14 x15) := rfl
    rw [List.map_cons, forRun, eb1]
    simp only [Option.bind, eb]
    exact h
theorem inner {C came : List Int} {n c : Int} {S : Src} {x2 x5 x8 x9 x10 x11 x12 x13 x14 x15 : SS} (hC : Sm C) (hl : C.length ≤ 6) (hcm : Sm came) (hcl : came.length < C.length) (hc : 0 ≤ c ∧ c < 6) (hnot : came.contains c = false) (hn : n.natAbs < 900) :
    ∃ S' y8 y9 y11 y12 y13 y14 y15, runs F_14 M_w_waiting_right_2 (wr (wD (wOf n came)) n (.list (chs came)) C x2 x5 (.frz (ch c)) x8 x9 x10 x11 x12 x13 x14 x15) (some S) =
      some (.nx (wr (if came.length + 1 = C.length then .none else wD (wOf n (srt (came ++ [c])))) n (.list (chs (srt (came ++ [c])))) C x2 x5 (.frz (ch c)) y8 y9 x10 y11 y12 y13 y14 y15) (some S')) := by
  have hW := wOk_wOf (n := n) hcm (by omega : came.length ≤ 100) (by omega)
  have hfr : fcs (wOf n came) C = frees n came C := fcs_wOf n came C
  have hlf : (if (wOf n came).isNone then [] else fcs (wOf n came) C) = leftL came C := by
    rw [none_wOf, hfr]
    rfl
  have sF : Sm (frees n came C) := sm_filter hC _
  have lF : (frees n came C).length ≤ 100 := Nat.le_trans (List.length_filter_le _ _) (by omega)
  have sL : Sm (leftL came C) := by
    unfold leftL
    split
    · exact fun k hk => nomatch hk
    · exact sF
  have lL : (leftL came C).length ≤ 100 := by
    unfold leftL
    split
    · exact Nat.zero_le _
    · exact lF
  -- the late ones
  have hlen1 : (srt (came ++ [c])).length = came.length + 1 := by rw [(srt_perm _).length_eq, List.length_append]; rfl
  -- the draw
  have key : ∀ (S2 : Src) (y8 y9 y11 y12 y13 : SS) (hy9 : y9 = .frz (.str (PyData.shown (.list [wD (wOf n came), .list (chs C)])))), ∃ y14 y15, runs F_14 (.cons (.set 14 .f (.call 0 (.cons (.nm 3) (.cons (.nm 1) (.cons (.nm 7) (.cons (.nm 4) .nil)))))) 
(.cons (.set 6 .f (.b1 .sorted (.op .add (.nm 6) (.lst (.cons (.nm 7) .nil))))) 
(.cons (.set 15 .f (.ite (.cmp .eq (.b1 .len (.nm 6)) (.b1 .len (.nm 1))) (.tup (.cons (.k .none) (.cons (.k (.bool true)) .nil))) (.tup (.cons (.tup (.cons (.nm 4) (.cons (.b1 .tuple (.nm 6)) .nil))) (.cons (.k (.bool false)) .nil))))) 
(.cons (.ite (.or_ (.cmp .ne (.b1 .repr (.nm 14)) (.b1 .repr (.nm 15))) (.or_ (.cmp .ne (.b1 .repr (.lst (.cons (.nm 3) (.cons (.nm 1) .nil)))) (.nm 9)) (.cmp .ne (.b1 .repr (.call 0 (.cons (.nm 3) (.cons (.b1 .tuple (.nm 1)) (.cons (.nm 7) (.cons (.nm 4) .nil)))))) (.b1 .repr (.nm 15))))) 
(.cons (.ret (.k (.bool false))) .nil) .nil) 
(.cons (.set 3 .f (.idx (.nm 14) (.k (.int 0)))) .nil))))) (wr (wD (wOf n came)) n (.list (chs came)) C x2 x5 (.frz (ch c)) y8 y9 x10 y11 y12 y13 x14 x15) (some S2) =
      some (.nx (wr (if came.length + 1 = C.length then .none else wD (wOf n (srt (came ++ [c])))) n (.list (chs (srt (came ++ [c])))) C x2 x5 (.frz (ch c)) y8 y9 x10 y11 y12 y13 y14 y15) (some S2)) := by
    intro S2 y8 y9 y11 y12 y13 hy9
    subst hy9
    have ec : ∀ {x : D} {s : S1}, seqOf x = some (chs C) → E_come.sem [.d (wD (wOf n came)), .d x, .d (ch c), .d (.int n)] s = some (comeD n (srt (came ++ [c])) C.length, s) := fun {x s} hx => by
      have := come_sem (W := wOf n came) (n := n) (s := s) hW (fun m L h => wOf_n h) (by rw [wL_wOf]; omega) hc (by rw [wL_wOf]; exact hnot) hx
      rw [wL_wOf] at this
      exact this
    have sN : Sm (srt (came ++ [c])) := sm_srt (sm_snoc hcm hc)
    have lN : (srt (came ++ [c])).length ≤ 6 := by omega
    have tD : Tm 5 20000 (comeD n (srt (came ++ [c])) C.length) := by
      unfold comeD
      split
      · exact (Tm.tup (k := 0) (m := 0) (fun z hz => by
          simp only [List.mem_cons, List.not_mem_nil, or_false] at hz
          rcases hz with rfl | rfl
          · exact Tm.none
          · exact Tm.bool _) (by show 2 * 1 ≤ 10; decide : _ ≤ 10)).mono (by decide) (by decide)
      · exact (Tm.tup (k := 4) (m := 5000) (fun z hz => by
          simp only [List.mem_cons, List.not_mem_nil, or_false] at hz
          rcases hz with rfl | rfl
          · exact Tm.tup (m := 2100) (fun y hy => by
              simp only [List.mem_cons, List.not_mem_nil, or_false] at hy
              rcases hy with rfl | rfl
              · exact Tm.int (by omega)
              · exact tmT sN (by omega)) (by show 2 * 2101 ≤ 5000; decide)
          · exact Tm.bool _) (by show 2 * 5001 ≤ 20000; decide))
    have eD := tD.repr (by decide) (by decide)
    refine ⟨.frz (comeD n (srt (came ++ [c])) C.length), .frz (comeD n (srt (came ++ [c])) C.length), ?_⟩
    refine runs_nx (wr (wD (wOf n came)) n (.list (chs came)) C x2 x5 (.frz (ch c)) y8 _ x10 y11 y12 y13 (.frz (comeD n (srt (came ++ [c])) C.length)) x15) (some S2) (run_set (ev_call (eva_cons (ev_nm rfl) (eva_cons (ev_nm rfl) (eva_cons (ev_nm rfl) (eva_cons (ev_nm rfl) eva_nil)))) P_14_0 rfl (ec rfl)) rfl (by simp [wr])) ?_
    refine runs_nx (wr (wD (wOf n came)) n (.list (chs (srt (came ++ [c])))) C x2 x5 (.frz (ch c)) y8 _ x10 y11 y12 y13 (.frz (comeD n (srt (came ++ [c])) C.length)) x15) (some S2) (run_set (ev_b1 (d := .list (chs (came ++ [c]))) ?_ ?_) rfl (by simp [wr])) ?_
    · have hz : (chs came).length + 1 ≤ sizeLine := by
        have : sizeLine = 16777216 := sizeLine_eq
        rw [chs_len]
        omega
      simp [ev, evs, vw, wr, SS.f, dOp, Option.bind, Option.map, sz1, hz]
      simp [chs]
    · simp only [dB1, srt_dS (sm_snoc hcm hc) (by rw [List.length_append]; show _ + 1 ≤ 100; omega), Option.map]
    refine runs_nx (wr (wD (wOf n came)) n (.list (chs (srt (came ++ [c])))) C x2 x5 (.frz (ch c)) y8 _ x10 y11 y12 y13 (.frz (comeD n (srt (came ++ [c])) C.length)) (.frz (comeD n (srt (came ++ [c])) C.length))) (some S2) (run_set (d := comeD n (srt (came ++ [c])) C.length) ?_ rfl (by simp [wr])) ?_
    · have ecmp : ∀ (ρ : LS) (s : S1), ρ[6]? = some (.d (.list (chs (srt (came ++ [c]))))) → ρ[1]? = some (.d (.list (chs C))) → ev F_14 (.cmp .eq (.b1 .len (.nm 6)) (.b1 .len (.nm 1))) ρ s = some (.bool (decide ((srt (came ++ [c])).length = C.length)), s) := fun ρ s h6 h1 => by
        refine ev_cmp (ev_b1 (ev_nm h6) (lenL _)) (ev_b1 (ev_nm h1) (lenL _)) ?_
        simp only [dCmp, dEqI, chs_len]
        congr 1
        by_cases q : (srt (came ++ [c])).length = C.length
        · rw [decide_eq_true q, decide_eq_true (by omega)]
        · rw [decide_eq_false q, decide_eq_false (by omega)]
      by_cases q : (srt (came ++ [c])).length = C.length
      · have := ecmp (vw .f (wr (wD (wOf n came)) n (.list (chs (srt (came ++ [c])))) C x2 x5 (.frz (ch c)) y8 (.frz (.str (PyData.shown (.list [wD (wOf n came), .list (chs C)])))) x10 y11 y12 y13 (.frz (comeD n (srt (came ++ [c])) C.length)) x15)) (some S2) rfl rfl
        rw [decide_eq_true q] at this
        refine ev_ite_t this ?_
        simp [ev, evs, Option.bind, Option.map, sz2, comeD, q]
      · have := ecmp (vw .f (wr (wD (wOf n came)) n (.list (chs (srt (came ++ [c])))) C x2 x5 (.frz (ch c)) y8 (.frz (.str (PyData.shown (.list [wD (wOf n came), .list (chs C)])))) x10 y11 y12 y13 (.frz (comeD n (srt (came ++ [c])) C.length)) x15)) (some S2) rfl rfl
        rw [decide_eq_false q] at this
        refine ev_ite_f this ?_
        simp [ev, evs, vw, wr, SS.f, dB1, Option.bind, Option.map, sz2, comeD, q]
    refine runs_nx _ (some S2) (run_skip (ev_or (ev_ne (ev_b1 (ev_nm rfl) eD) (ev_b1 (ev_nm rfl) eD)) (ev_or (ev_ne (evShown hC hl hcm (by omega) (by omega) rfl rfl) (ev_nm rfl)) (ev_ne (ev_b1 (ev_call (eva_cons (ev_nm rfl) (eva_cons (ev_b1 (ev_nm rfl) rfl) (eva_cons (ev_nm rfl) (eva_cons (ev_nm rfl) eva_nil)))) P_14_0 rfl (ec rfl)) eD) (ev_b1 (ev_nm rfl) eD))))) ?_
    refine runs_nx _ (some S2) (run_set (d := if came.length + 1 = C.length then .none else wD (wOf n (srt (came ++ [c])))) ?_ rfl (by simp [wr])) rfl
    have hne : srt (came ++ [c]) ≠ [] := fun z => by rw [z] at hlen1; cases hlen1
    simp only [ev, vw, wr, SS.f, List.map, List.getElem?_cons_succ, List.getElem?_cons_zero, Option.bind, Option.map]
    unfold comeD
    rw [hlen1]
    by_cases q : came.length + 1 = C.length
    · simp [q, dIdx, atI, ixN]
    · simp [q, dIdx, atI, ixN, wOf, hne, wD]
  -- from the top
  have hcl6 : came.length ≤ 6 := by omega
  have hn' : n.natAbs < 1000 := by omega
  have eT := (tri_tm sF sL lF lL).repr (by decide) (by decide)
  have eB := (bools_tm (f := fun k => came.contains k) (C := C) (by omega)).repr (by decide) (by decide)
  have hheld : (C.map fun k => PyData.bool (held (wOf n came) k)) = C.map fun k => PyData.bool (came.contains k) := by
    congr
    funext k
    rw [held_wOf]
  let y8 : SS := .frz (.list (chs (frees n came C)))
  let y9 : SS := .frz (.str (PyData.shown (.list [wD (wOf n came), .list (chs C)])))
  let y11 : SS := .frz (.list (C.map fun k => .bool (came.contains k)))
  have tail : ∀ S2 z13, ∃ S' y8 y9 y11 y12 y13 y14 y15, runs F_14 (.cons (.set 14 .f (.call 0 (.cons (.nm 3) (.cons (.nm 1) (.cons (.nm 7) (.cons (.nm 4) .nil)))))) 
(.cons (.set 6 .f (.b1 .sorted (.op .add (.nm 6) (.lst (.cons (.nm 7) .nil))))) 
(.cons (.set 15 .f (.ite (.cmp .eq (.b1 .len (.nm 6)) (.b1 .len (.nm 1))) (.tup (.cons (.k .none) (.cons (.k (.bool true)) .nil))) (.tup (.cons (.tup (.cons (.nm 4) (.cons (.b1 .tuple (.nm 6)) .nil))) (.cons (.k (.bool false)) .nil))))) 
(.cons (.ite (.or_ (.cmp .ne (.b1 .repr (.nm 14)) (.b1 .repr (.nm 15))) (.or_ (.cmp .ne (.b1 .repr (.lst (.cons (.nm 3) (.cons (.nm 1) .nil)))) (.nm 9)) (.cmp .ne (.b1 .repr (.call 0 (.cons (.nm 3) (.cons (.b1 .tuple (.nm 1)) (.cons (.nm 7) (.cons (.nm 4) .nil)))))) (.b1 .repr (.nm 15))))) 
(.cons (.ret (.k (.bool false))) .nil) .nil) 
(.cons (.set 3 .f (.idx (.nm 14) (.k (.int 0)))) .nil))))) (wr (wD (wOf n came)) n (.list (chs came)) C x2 x5 (.frz (ch c)) (.frz (.list (chs (frees n came C)))) (.frz (.str (PyData.shown (.list [wD (wOf n came), .list (chs C)])))) x10 (.frz (.list (C.map fun k => .bool (came.contains k)))) .un z13 x14 x15) (some S2) =
      some (.nx (wr (if came.length + 1 = C.length then .none else wD (wOf n (srt (came ++ [c])))) n (.list (chs (srt (came ++ [c])))) C x2 x5 (.frz (ch c)) y8 y9 x10 y11 y12 y13 y14 y15) (some S')) := fun S2 z13 => by
    obtain ⟨y14, y15, h⟩ := key S2 (.frz (.list (chs (frees n came C)))) _ (.frz (.list (C.map fun k => .bool (came.contains k)))) .un z13 rfl
    exact ⟨_, _, _, _, _, _, _, _, h⟩
  have pre : ∀ R, runs F_14 (.cons (.ite (.and_ (.cmp .ne (.nm 6) (.lst .nil)) (.cmp .ne (.call 13 (.cons (.nm 3) (.cons (.nm 1) (.cons (.idx (.nm 6) (.call 9 (.src 0 (.cons (.b1 .len (.nm 6)) .nil)))) (.cons (.nm 4) .nil))))) (.lst (.cons (.nm 4) .nil)))) 
(.cons (.ret (.k (.bool false))) .nil) .nil) 
(.cons (.for_ (.nm 13) (.seq (.ite (.cmp .ne (.nm 6) (.lst .nil)) (.slc (.lst (.cons (.op .add (.nm 4) (.k (.int 1))) (.cons (.op .add (.nm 4) (.k (.int 7))) (.cons (.op .sub (.nm 4) (.k (.int 1))) .nil)))) .no (.yes (.op .add (.k (.int 2)) (.b1 .int (.cmp .gt (.nm 4) (.k (.int 1))))))) (.lst .nil))) M_w_waiting_right_1)
(.cons (.set 14 .f (.call 0 (.cons (.nm 3) (.cons (.nm 1) (.cons (.nm 7) (.cons (.nm 4) .nil)))))) 
(.cons (.set 6 .f (.b1 .sorted (.op .add (.nm 6) (.lst (.cons (.nm 7) .nil))))) 
(.cons (.set 15 .f (.ite (.cmp .eq (.b1 .len (.nm 6)) (.b1 .len (.nm 1))) (.tup (.cons (.k .none) (.cons (.k (.bool true)) .nil))) (.tup (.cons (.tup (.cons (.nm 4) (.cons (.b1 .tuple (.nm 6)) .nil))) (.cons (.k (.bool false)) .nil))))) 
(.cons (.ite (.or_ (.cmp .ne (.b1 .repr (.nm 14)) (.b1 .repr (.nm 15))) (.or_ (.cmp .ne (.b1 .repr (.lst (.cons (.nm 3) (.cons (.nm 1) .nil)))) (.nm 9)) (.cmp .ne (.b1 .repr (.call 0 (.cons (.nm 3) (.cons (.b1 .tuple (.nm 1)) (.cons (.nm 7) (.cons (.nm 4) .nil)))))) (.b1 .repr (.nm 15))))) 
(.cons (.ret (.k (.bool false))) .nil) .nil) 
(.cons (.set 3 .f (.idx (.nm 14) (.k (.int 0)))) .nil))))))) (wr (wD (wOf n came)) n (.list (chs came)) C x2 x5 (.frz (ch c)) (.frz (.list (chs (frees n came C)))) (.frz (.str (PyData.shown (.list [wD (wOf n came), .list (chs C)])))) x10 (.frz (.list (C.map fun k => .bool (came.contains k)))) .un x13 x14 x15) (some S) = R → runs F_14 M_w_waiting_right_2 (wr (wD (wOf n came)) n (.list (chs came)) C x2 x5 (.frz (ch c)) x8 x9 x10 x11 x12 x13 x14 x15) (some S) = R := fun R k => by
    refine runs_nx (wr (wD (wOf n came)) n (.list (chs came)) C x2 x5 (.frz (ch c)) (.frz (.list (chs (frees n came C)))) (.frz (.str (PyData.shown (.list [wD (wOf n came), .list (chs C)])))) x10 x11 x12 x13 x14 x15) (some S) (run_par2 (free_comp rfl rfl (by simp [vw, wr]) hC (by omega) hcm (by omega)) rfl (evShown hC hl hcm hcl6 hn' rfl rfl) rfl (by simp [wr])) ?_
    refine runs_nx (wr (wD (wOf n came)) n (.list (chs came)) C x2 x5 (.frz (ch c)) (.frz (.list (chs (frees n came C)))) (.frz (.str (PyData.shown (.list [wD (wOf n came), .list (chs C)])))) x10 (.own2 [chs (frees n came C), chs (leftL came C), chs (frees n came C)]) x12 x13 x14 x15) (some S) (run_set (d := .list [.list (chs (frees n came C)), .list (chs (leftL came C)), .list (chs (frees n came C))]) ?_ rfl (by simp [wr])) ?_
    · rw [← hlf, ← hfr]
      exact ev_lst3 (free_sem hW hC (by omega) rfl rfl) (left_sem hW hC (by omega) rfl rfl) (free_semT hW hC (by omega) rfl rfl)
    refine runs_nx _ (some S) (run_skip (ev_ne (ev_b1 (ev_nm rfl) eT) (ev_b1 (d := .list [.list (chs (frees n came C)), .list (chs (leftL came C)), .list (chs (frees n came C))]) (ev_lst3 (ev_nm rfl) ?_ (ev_nm rfl)) eT))) ?_
    · have e := isnil_cmp (s := some S) (ρ := (wr (wD (wOf n came)) n (.list (chs came)) C x2 x5 (.frz (ch c)) (.frz (.list (chs (frees n came C)))) (.frz (.str (PyData.shown (.list [wD (wOf n came), .list (chs C)])))) x10 (.own2 [chs (frees n came C), chs (leftL came C), chs (frees n came C)]) x12 x13 x14 x15).map SS.r) hcm hcl6 rfl
      cases hE : came.isEmpty with
      | true =>
        rw [hE] at e
        have eL : leftL came C = [] := by simp [leftL, hE]
        refine ev_ite_f e ?_
        rw [eL]
        simp [ev, evs, sz0, chs]
      | false =>
        rw [hE] at e
        have eL : leftL came C = frees n came C := by simp [leftL, frees, hE]
        refine ev_ite_t e (ev_nm ?_)
        rw [eL]
        rfl
    refine runs_nx (wr (wD (wOf n came)) n (.list (chs came)) C x2 x5 (.frz (ch c)) (.frz (.list (chs (frees n came C)))) (.frz (.str (PyData.shown (.list [wD (wOf n came), .list (chs C)])))) x10 .un .un x13 x14 x15) (some S) ?_ ?_
    · have hz : ∀ L : List Int, L.length ≤ 100 → (chs L).length < sizeLine := fun L h => by
        have : sizeLine = 16777216 := sizeLine_eq
        rw [chs_len]
        omega
      simp [run, wr, hz _ lF, hz _ lL]
    refine runs_nx (wr (wD (wOf n came)) n (.list (chs came)) C x2 x5 (.frz (ch c)) (.frz (.list (chs (frees n came C)))) (.frz (.str (PyData.shown (.list [wD (wOf n came), .list (chs C)])))) x10 (.frz (.list (C.map fun k => .bool (came.contains k)))) .un x13 x14 x15) (some S) (run_set (d := .list (C.map fun k => .bool (came.contains k))) (by rw [← hheld]; exact held_comp rfl rfl (by simp [vw, wr]) hC (by omega) hW) rfl (by simp [wr])) ?_
    refine runs_nx _ (some S) (run_skip (ev_or (ev_ne (ev_b1 (ev_nm rfl) eB) (ev_b1 (isin_comp rfl rfl (by simp [wr]) hC (by omega) hcm (by omega)) eB)) (ev_ne (evShown hC hl hcm hcl6 hn' rfl rfl) (ev_nm rfl)))) ?_
    exact k
  by_cases hne : came = []
  · obtain ⟨S', y8, y9, y11, y12, y13, y14, y15, h⟩ := tail S x13
    refine ⟨S', y8, y9, y11, y12, y13, y14, y15, pre _ ?_⟩
    have e := fun (ρ : LS) (h6 : ρ[6]? = some (.d (.list (chs came)))) => isnil_cmp (s := some S) (ρ := ρ) hcm hcl6 h6
    have hE : came.isEmpty = true := by rw [hne]; rfl
    rw [hE] at e
    refine runs_nx _ (some S) (run_skip (ev_and_f (e _ rfl))) ?_
    refine runs_nx (wr (wD (wOf n came)) n (.list (chs came)) C x2 x5 (.frz (ch c)) (.frz (.list (chs (frees n came C)))) (.frz (.str (PyData.shown (.list [wD (wOf n came), .list (chs C)])))) x10 (.frz (.list (C.map fun k => .bool (came.contains k)))) .un x13 x14 x15) (some S) (run_for (xs := []) (s1 := some S) ?_ rfl) h
    have e2 : ∀ ρ : LS, ρ[6]? = some (.d (.list (chs came))) → ev F_14 (.ite (.cmp .ne (.nm 6) (.lst .nil)) (.slc (.lst (.cons (.op .add (.nm 4) (.k (.int 1))) (.cons (.op .add (.nm 4) (.k (.int 7))) (.cons (.op .sub (.nm 4) (.k (.int 1))) .nil)))) .no (.yes (.op .add (.k (.int 2)) (.b1 .int (.cmp .gt (.nm 4) (.k (.int 1))))))) (.lst .nil)) ρ (some S) = some (.list [], some S) := fun ρ h6 => ev_ite_f (e ρ h6) (by simp [ev, evs, sz0])
    rw [evi, e2 _ rfl]
    rfl
  · have hW' : wOf n came = some (n, came) := if_neg hne
    have hE : came.isEmpty = false := by cases came <;> simp at hne ⊢
    have e := fun (ρ : LS) (s : S1) (h6 : ρ[6]? = some (.d (.list (chs came)))) => isnil_cmp (s := s) (ρ := ρ) hcm hcl6 h6
    rw [hE] at e
    have hpos : 1 ≤ (came.length : Int) := by
      cases came with
      | nil => exact absurd rfl hne
      | cons a l => simp only [List.length_cons]; omega
    have hr := pickS_range (m := (came.length : Int)) (S := S) hpos
    have hk : (pickS (came.length : Int) S).1.toNat < came.length := by omega
    obtain ⟨y13', hl'⟩ := late_run (C := C) (n := n) (c := c) (s := some (pickS (came.length : Int) S).2) (x2 := x2) (x5 := x5) (x8 := .frz (.list (chs (frees n came C)))) (x9 := .frz (.str (PyData.shown (.list [wD (wOf n came), .list (chs C)])))) (x10 := x10) (x11 := .frz (.list (C.map fun k => .bool (came.contains k)))) (x12 := .un) (x14 := x14) (x15 := x15) hne hcm hcl6 hc hn' (if n > 1 then [n + 1, n + 7, n - 1] else [n + 1, n + 7]) (fun m hm => by
      split at hm <;> simp only [List.mem_cons, List.not_mem_nil, or_false] at hm <;> omega) x13
    obtain ⟨S', y8, y9, y11, y12, y13, y14, y15, h⟩ := tail (pickS (came.length : Int) S).2 y13'
    refine ⟨S', y8, y9, y11, y12, y13, y14, y15, pre _ ?_⟩
    have eidx : ∀ ρ : LS, ρ[0]? = some .src → ρ[6]? = some (.d (.list (chs came))) → ev F_14 (.idx (.nm 6) (.call 9 (.src 0 (.cons (.b1 .len (.nm 6)) .nil)))) ρ (some S) = some (ch (came[(pickS (came.length : Int) S).1.toNat]), some (pickS (came.length : Int) S).2) := fun ρ h0 h6 => by
      have ep : ev F_14 (.call 9 (.src 0 (.cons (.b1 .len (.nm 6)) .nil))) ρ (some S) = some (.int (pickS (came.length : Int) S).1, some (pickS (came.length : Int) S).2) :=
        ev_call (eva_src h0 (eva_cons (ev_b1 (ev_nm h6) (lenL _)) eva_nil)) P_14_9 rfl (by rw [chs_len]; exact pick_sem (by omega))
      rw [ev, ev_nm h6]
      simp only [Option.bind, ep]
      have ea : atI (chs came) (pickS (came.length : Int) S).1 = some (ch (came[(pickS (came.length : Int) S).1.toNat])) := by
        unfold atI ixN
        rw [if_pos (by omega), if_pos (by rw [chs_len]; omega)]
        simp [chs, hk]
      simp only [dIdx, ea, Option.map]
    have hci : 0 ≤ came[(pickS (came.length : Int) S).1.toNat] ∧ came[(pickS (came.length : Int) S).1.toNat] < 6 := hcm _ (List.getElem_mem hk)
    refine runs_nx _ (some (pickS (came.length : Int) S).2) (run_skip (ev_and_t (e _ _ rfl) (ev_cmp (ev_call (eva_cons (ev_nm rfl) (eva_cons (ev_nm rfl) (eva_cons (eidx _ rfl rfl) (eva_cons (ev_nm rfl) eva_nil)))) P_14_13 rfl (barred_in hW' hcm hcl6 hci (.inr (by simp)))) (ev_lst1 (ev_nm rfl)) (one_ne (by omega))))) ?_
    refine runs_nx (wr (wD (wOf n came)) n (.list (chs came)) C x2 x5 (.frz (ch c)) (.frz (.list (chs (frees n came C)))) (.frz (.str (PyData.shown (.list [wD (wOf n came), .list (chs C)])))) x10 (.frz (.list (C.map fun k => .bool (came.contains k)))) .un y13' x14 x15) (some (pickS (came.length : Int) S).2) (run_for ?_ hl') h
    have e2 : ∀ (ρ : LS) (s : S1), ρ[6]? = some (.d (.list (chs came))) → ρ[4]? = some (.d (.int n)) → ev F_14 (.ite (.cmp .ne (.nm 6) (.lst .nil)) (.slc (.lst (.cons (.op .add (.nm 4) (.k (.int 1))) (.cons (.op .add (.nm 4) (.k (.int 7))) (.cons (.op .sub (.nm 4) (.k (.int 1))) .nil)))) .no (.yes (.op .add (.k (.int 2)) (.b1 .int (.cmp .gt (.nm 4) (.k (.int 1))))))) (.lst .nil)) ρ s = some (.list ((if n > 1 then [n + 1, n + 7, n - 1] else [n + 1, n + 7]).map .int), s) := fun ρ s h6 h4 => by
      refine ev_ite_t (e ρ s h6) ?_
      by_cases q : n > 1
      · have q' : (1 : Int) < n := q
        simp [ev, evs, evo, h4, dOp, dCmp, dLt, dB1, bnd, dSlc, cutD, Option.bind, Option.map, sz3, q, q', HT.sIx]
      · have q' : ¬ (1 : Int) < n := q
        simp [ev, evs, evo, h4, dOp, dCmp, dLt, dB1, bnd, dSlc, cutD, Option.bind, Option.map, sz3, q, q', HT.sIx]
    rw [evi, e2 _ _ rfl rfl]
    rfl
end Os
end
section
set_option linter.all false
set_option maxRecDepth 100000
set_option maxHeartbeats 4000000
namespace Os
open PySem PySem.Spec PyProof.Rows L2
theorem wloop {C O : List Int} {n : Int} {S : Src} {x2 x5 x7 x8 x9 x10 x11 x12 x13 x14 x15 : SS} (hC : Sm C) (h1 : 1 ≤ C.length) (hl : C.length ≤ 6) (hO : O.Perm C) (nd : C.Nodup) (hn : n.natAbs < 900) :
    ∃ ρ' S', forRun (runs F_14 M_w_waiting_right_2) (.nm 7) (chs O) (wr .none n (.list []) C x2 x5 x7 x8 x9 x10 x11 x12 x13 x14 x15) (some S) = some (.nx ρ' S') ∧
      ∃ came S2 y7 y8 y9 y11 y12 y13 y14 y15, ρ' = wr .none n (.list (chs came)) C x2 x5 y7 y8 y9 x10 y11 y12 y13 y14 y15 ∧ S' = some S2 := by
  have lO : O.length = C.length := hO.length_eq
  have ndO : O.Nodup := hO.nodup_iff.mpr nd
  obtain ⟨ρ', s', h, came, S2, y7, y8, y9, y11, y12, y13, y14, y15, hp, hr, hs⟩ := forRun_ind (f := runs F_14 M_w_waiting_right_2) (t := .nm 7) (fun j ρ s => ∃ came S2 y7 y8 y9 y11 y12 y13 y14 y15, came.Perm (O.take j) ∧ ρ = wr (if j = C.length then .none else wD (wOf n came)) n (.list (chs came)) C x2 x5 y7 y8 y9 x10 y11 y12 y13 y14 y15 ∧ s = some S2) (chs O) 0
    (ρ := wr .none n (.list []) C x2 x5 x7 x8 x9 x10 x11 x12 x13 x14 x15) (s := some S) ⟨[], S, x7, x8, x9, x11, x12, x13, x14, x15, by simp, by rw [if_neg (by omega)]; rfl, rfl⟩ (fun i x ρ s hx hP => by
    obtain ⟨came, S2, y7, y8, y9, y11, y12, y13, y14, y15, hp, hr, hs⟩ := hP
    rw [Nat.zero_add] at hp hr
    have hi : i < O.length := by
      have := (List.getElem?_eq_some_iff.mp hx).1
      rwa [chs_len] at this
    have hxc : x = ch O[i] := by
      unfold chs at hx
      rw [List.getElem?_map, List.getElem?_eq_getElem hi] at hx
      simpa using hx.symm
    subst hxc hr hs
    have hlen : came.length = i := by rw [hp.length_eq, List.length_take]; omega
    have hsub : ∀ k ∈ came, k ∈ O := fun k hk => List.mem_of_mem_take (hp.mem_iff.mp hk)
    have hcm : Sm came := fun k hk => hC k (hO.mem_iff.mp (hsub k hk))
    have hc : 0 ≤ O[i] ∧ O[i] < 6 := hC _ (hO.mem_iff.mp (List.getElem_mem hi))
    have hnot : came.contains O[i] = false := by
      cases q : came.contains O[i] with
      | false => rfl
      | true =>
        have hm : O[i] ∈ O.take i := hp.mem_iff.mp (by simpa using q)
        obtain ⟨j, hj, e⟩ := List.mem_iff_getElem.mp hm
        rw [List.length_take] at hj
        rw [List.getElem_take] at e
        exact absurd e (List.pairwise_iff_getElem.mp ndO j i (by omega) hi (by omega))
    obtain ⟨S3, z8, z9, z11, z12, z13, z14, z15, hin⟩ := inner (C := C) (came := came) (n := n) (c := O[i]) (S := S2) (x2 := x2) (x5 := x5) (x8 := y8) (x9 := y9) (x10 := x10) (x11 := y11) (x12 := y12) (x13 := y13) (x14 := y14) (x15 := y15) hC hl hcm (by omega) hc hnot hn
    rw [if_neg (by omega)]
    refine ⟨wr (wD (wOf n came)) n (.list (chs came)) C x2 x5 (.frz (ch O[i])) y8 y9 x10 y11 y12 y13 y14 y15, _, _, rfl, .inl hin, srt (came ++ [O[i]]), S3, .frz (ch O[i]), z8, z9, z11, z12, z13, z14, z15, ?_, ?_, rfl⟩
    · refine (srt_perm _).trans ?_
      rw [Nat.zero_add, List.take_succ, List.getElem?_eq_getElem hi]
      exact hp.append_right _
    · rw [Nat.zero_add, hlen])
  refine ⟨ρ', s', h, came, S2, y7, y8, y9, y11, y12, y13, y14, y15, ?_, hs⟩
  rw [hr, if_pos (by rw [chs_len]; omega)]
theorem chs_un {L : List D} {C : List Int} (h : L.Perm (chs C)) : chs (L.map unch) = L ∧ (L.map unch).Perm C := by
  have h1 : ∀ x ∈ L, ch (unch x) = x := fun x hx => by
    obtain ⟨k, _, rfl⟩ := List.mem_map.mp (h.mem_iff.mp hx)
    rfl
  refine ⟨?_, ?_⟩
  · unfold chs
    rw [List.map_map]
    conv => rhs; rw [← List.map_id L]
    exact List.map_congr_left fun x hx => h1 x hx
  · have := h.map unch
    have e : (chs C).map unch = C := by
      unfold chs
      rw [List.map_map]
      exact (List.map_congr_left fun x _ => unch_ch x).trans (List.map_id C)
    rwa [e] at this
theorem order_chs {C : List Int} {S : Src} (hl : C.length ≤ 100) : ∃ O S', O.Perm C ∧ orderF.sem [.src, .d (.list (chs C))] (some S) = some (.list (chs O), some S') := by
  have hp := orderS_perm (chs C).length (chs C) S rfl
  obtain ⟨h1, h2⟩ := chs_un hp
  refine ⟨((orderS (chs C).length (chs C) S).1).map unch, (orderS (chs C).length (chs C) S).2, h2, ?_⟩
  rw [h1]
  simp only [orderF, seqOf, Option.bind]
  rw [if_pos (chs_z hl)]
theorem ev_order {C : List Int} {S : Src} {ρ : LS} (hl : C.length ≤ 100) (h0 : ρ[0]? = some .src) {e : ME} {S1 : Src} (he : ev F_14 e ρ (some S) = some (.list (chs C), some S1)) : ∃ O S', O.Perm C ∧ ev F_14 (.call 10 (.src 0 (.cons e .nil))) ρ (some S) = some (.list (chs O), some S') := by
  obtain ⟨O, S', hp, h⟩ := order_chs (S := S1) hl
  exact ⟨O, S', hp, ev_call (eva_src h0 (eva_cons he eva_nil)) P_14_10 rfl h⟩
def wo (n : Int) (C : List Int) (x2 x5 x6 x7 x8 x9 x10 x11 x12 x13 x14 x15 : SS) : LSS := [.src, .frz (.list (chs C)), x2, .frz .none, .frz (.int n), x5, x6, x7, x8, x9, x10, x11, x12, x13, x14, x15]
theorem lap_run {C : List Int} {n : Int} {S : Src} {x2 x5 x6 x7 x8 x9 x10 x11 x12 x13 x14 x15 : SS} (hC : Sm C) (h1 : 1 ≤ C.length) (hl : C.length ≤ 6) (nd : C.Nodup) (hn : 0 ≤ n ∧ n < 100) :
    ∃ ρ' s' n' S' y6 y7 y8 y9 y11 y12 y13 y14 y15, runs F_14 M_w_waiting_right_3 (wo n C x2 x5 x6 x7 x8 x9 x10 x11 x12 x13 x14 x15) (some S) = some (.nx ρ' s') ∧ ρ' = wo n' C x2 x5 y6 y7 y8 y9 x10 y11 y12 y13 y14 y15 ∧ s' = some S' ∧ 0 ≤ n' ∧ n' ≤ n + 3 := by
  have hr := pickS_range (m := 3) (S := S) (by decide)
  have ep : ∀ ρ : LS, ρ[0]? = some .src → ev F_14 (.call 9 (.src 0 (.cons (.k (.int 3)) .nil))) ρ (some S) = some (.int (pickS 3 S).1, some (pickS 3 S).2) := fun ρ h0 =>
    ev_call (eva_src h0 (eva_cons (by rw [ev]) eva_nil)) P_14_9 rfl (pick_sem (by decide))
  obtain ⟨O, S2, hO, eo⟩ := ev_order (C := C) (S := (pickS 3 S).2) (ρ := (wr .none (n + 1 + (pickS 3 S).1) (.list []) C x2 x5 x7 x8 x9 x10 x11 x12 x13 x14 x15).map SS.f) (e := .nm 1) (by omega) rfl (ev_nm rfl)
  obtain ⟨ρ', s', hw, came, S3, y7, y8, y9, y11, y12, y13, y14, y15, e1, e2⟩ := wloop (O := O) (n := n + 1 + (pickS 3 S).1) (S := S2) (x2 := x2) (x5 := x5) (x7 := x7) (x8 := x8) (x9 := x9) (x10 := x10) (x11 := x11) (x12 := x12) (x13 := x13) (x14 := x14) (x15 := x15) hC h1 hl hO nd (by omega)
  refine ⟨ρ', s', n + 1 + (pickS 3 S).1, S3, .frz (.list (chs came)), y7, y8, y9, y11, y12, y13, y14, y15, ?_, e1, e2, by omega, by omega⟩
  refine runs_nx (wr .none (n + 1 + (pickS 3 S).1) (.list []) C x2 x5 x7 x8 x9 x10 x11 x12 x13 x14 x15) (some (pickS 3 S).2) (run_par2 (d := .int (n + 1 + (pickS 3 S).1)) (x := .list []) (s1 := some (pickS 3 S).2) ?_ rfl (by simp [ev, evs, sz0]) rfl (by simp [wo])) ?_
  · rw [ev, ev]
    simp only [ev, vw, wo, SS.f, List.map, List.getElem?_cons_succ, List.getElem?_cons_zero, Option.bind]
    have := ep (vw .f (wo n C x2 x5 x6 x7 x8 x9 x10 x11 x12 x13 x14 x15)) rfl
    simp only [ev, vw, wo, SS.f, List.map, List.getElem?_cons_succ, List.getElem?_cons_zero, Option.bind, dOp, Option.map] at this ⊢
    rw [this]
  refine runs_nx ρ' s' (run_for (xs := chs O) (s1 := some S2) ?_ hw) rfl
  rw [evi, eo]
  rfl
theorem waiting_right_sem (S : Src) : ∃ S', E_w_waiting_right.sem [.src] (some S) = some (.bool true, some S') := by
  have hr := pickS_range (m := 6) (S := S) (by decide)
  have ep : ∀ ρ : LS, ρ[0]? = some .src → ev F_14 (.call 9 (.src 0 (.cons (.k (.int 6)) .nil))) ρ (some S) = some (.int (pickS 6 S).1, some (pickS 6 S).2) := fun ρ h0 =>
    ev_call (eva_src h0 (eva_cons (by rw [ev]) eva_nil)) P_14_9 rfl (pick_sem (by decide))
  generalize hm : (1 + (pickS 6 S).1).toNat = m
  have hm1 : 1 ≤ m := by omega
  have hm6 : m ≤ 6 := by omega
  let C0 : List Int := (List.range m).map fun i : Nat => (i : Int)
  have c0 : C0.length = m := by simp [C0]
  have s0 : Sm C0 := fun k hk => by
    obtain ⟨i, hi, rfl⟩ := List.mem_map.mp hk
    have := List.mem_range.mp hi
    omega
  have nd0 : C0.Nodup := List.Pairwise.map _ (fun a b h => by omega) List.nodup_range
  let ρ0 : LSS := [.src, .un, .un, .un, .un, .un, .un, .un, .un, .un, .un, .un, .un, .un, .un, .un]
  have ecomp : ev F_14 (.comp (.tup (.cons (.tup (.cons (.k (.str "a")) (.cons (.nm 2) .nil))) (.cons (.op .fdiv (.nm 2) (.k (.int 3))) (.cons (.tup (.cons (.k (.str "b")) (.cons (.k (.int 0)) .nil))) .nil)))) (.nm 2) (.range1 (.op .add (.k (.int 1)) (.call 9 (.src 0 (.cons (.k (.int 6)) .nil))))) .nil [2]) (vw .f ρ0) (some S) = some (.list (chs C0), some (pickS 6 S).2) := by
    refine ev_comp (xs := rangeD 0 m) (s1 := some (pickS 6 S).2) ?_ ?_ (chs_z (by omega))
    · have := ep (vw .f ρ0) rfl
      simp only [evi, ev, Option.bind] at this ⊢
      rw [this]
      simp only [dOp, Option.map]
      rw [if_pos (by omega), hm]
    · rw [compRun_map (fun d => match d with | .int k => ch k | _ => .none) fun d hd => ?_]
      · simp [rangeD, chs, C0, List.map_map, Function.comp_def]
      · obtain ⟨i, hi, rfl⟩ := List.mem_map.mp hd
        refine ⟨[.src, .un, .d (.int (0 + (i : Nat))), .un, .un, .un, .un, .un, .un, .un, .un, .un, .un, .un, .un, .un], rfl, rfl, ?_⟩
        simp [ev, evs, dOp, Option.bind, Option.map, sz2, sz3, ch]
  obtain ⟨C, S1, hC, eo⟩ := ev_order (C := C0) (S := S) (ρ := vw .f ρ0) (by omega) rfl ecomp
  have lC : C.length = m := by rw [hC.length_eq, c0]
  have sC : Sm C := fun k hk => s0 k (hC.mem_iff.mp hk)
  have ndC : C.Nodup := hC.nodup_iff.mpr nd0
  obtain ⟨ρ', s', h, n, S2, x2, x5, x6, x7, x8, x9, x10, x11, x12, x13, x14, x15, e1, e2, e3, e4⟩ := forRun_ind (f := runs F_14 M_w_waiting_right_3) (t := .nm 5) (fun j ρ s => ∃ n S2 x2 x5 x6 x7 x8 x9 x10 x11 x12 x13 x14 x15, ρ = wo n C x2 x5 x6 x7 x8 x9 x10 x11 x12 x13 x14 x15 ∧ s = some S2 ∧ 0 ≤ n ∧ n ≤ 3 * j) (rangeD 0 3) 0
    (ρ := wo 0 C .un .un .un .un .un .un .un .un .un .un .un .un) (s := some S1) ⟨0, S1, .un, .un, .un, .un, .un, .un, .un, .un, .un, .un, .un, .un, rfl, rfl, by omega, by omega⟩ (fun i x ρ s hx hP => by
      obtain ⟨n, S2, x2, x5, x6, x7, x8, x9, x10, x11, x12, x13, x14, x15, rfl, rfl, h3, h4⟩ := hP
      have hi : i < 3 := (List.getElem?_eq_some_iff.mp hx).1
      obtain ⟨ρ', s', n', S', y6, y7, y8, y9, y11, y12, y13, y14, y15, g1, g2, g3, g4, g5⟩ := lap_run (C := C) (n := n) (S := S2) (x2 := x2) (x5 := .frz x) (x6 := x6) (x7 := x7) (x8 := x8) (x9 := x9) (x10 := x10) (x11 := x11) (x12 := x12) (x13 := x13) (x14 := x14) (x15 := x15) sC (by omega) (by omega) ndC ⟨h3, by omega⟩
      exact ⟨wo n C x2 (.frz x) x6 x7 x8 x9 x10 x11 x12 x13 x14 x15, ρ', s', rfl, .inl g1, n', S', x2, .frz x, y6, y7, y8, y9, x10, y11, y12, y13, y14, y15, g2, g3, g4, by omega⟩)
  subst e1 e2
  refine ⟨S2, sem_rt ρ0 rfl ?_⟩
  refine runs_nx [.src, .frz (.list (chs C)), .un, .un, .un, .un, .un, .un, .un, .un, .un, .un, .un, .un, .un, .un] (some S1) (run_set eo rfl (by simp [ρ0])) ?_
  refine runs_nx (wo 0 C .un .un .un .un .un .un .un .un .un .un .un .un) (some S1) (run_par2 (d := .none) (x := .int 0) (s1 := some S1) (by rw [ev]) rfl (by rw [ev]) rfl (by simp)) ?_
  refine runs_nx _ (some S2) (run_for (xs := rangeD 0 3) (s1 := some S1) ?_ h) ?_
  · simp [evi, ev, rangeD, Option.bind]
  refine runs_rt (run_ret ?_)
  simp [ev, wo, SS.r, isNone, Option.bind]
end Os
end
section
set_option linter.all false
set_option maxRecDepth 100000
set_option maxHeartbeats 4000000
namespace Os
open PySem PySem.Spec PyProof.Rows L2
inductive Th where
  | mark (m : Int)
  | row (t w : Int) (a : Option Str) (b : Option Int)
  | bar (n : Int)
def oS : Option Str → D
  | none => .none
  | some x => .str x
def oI : Option Int → D
  | none => .none
  | some x => .int x
def tword : Th → Str
  | .mark _ => "mark"
  | .row .. => "row"
  | .bar _ => "barrier"
def ttold : Th → D
  | .mark m => .int m
  | .row t w a b => .tuple [.int t, .int w, .tuple [oS a, oI b]]
  | .bar n => .int n
def td (x : Th) : D := .tuple [.str (tword x), ttold x]
def tds (ts : List Th) : List D := ts.map td
def tbad (mark last : Int) : Th → Bool
  | .mark m => decide (m < mark)
  | .row t _ _ _ => decide (t < mark)
  | .bar n => decide (n ≤ last)
def nMark (mark : Int) : Th → Int
  | .mark m => m
  | _ => mark
def nLast (last : Int) : Th → Int
  | .bar n => n
  | _ => last
def jud : Int → Int → Nat → List Th → D
  | _, _, _, [] => .none
  | mark, last, k, x :: xs => if tbad mark last x = true then .tuple [.str (tword x), .int k] else jud (nMark mark x) (nLast last x) (k + 1) xs
def en : Nat → List D → List D
  | _, [] => []
  | k, x :: xs => .tuple [.int (k : Nat), x] :: en (k + 1) xs
theorem en_get : ∀ (xs : List D) (k i : Nat), (en k xs)[i]? = xs[i]?.map fun x => .tuple [.int ((k + i : Nat) : Int), x]
  | [], k, i => by simp [en]
  | x :: xs, k, 0 => by simp [en]
  | x :: xs, k, i + 1 => by
    rw [en, List.getElem?_cons_succ, List.getElem?_cons_succ, en_get xs (k + 1) i]
    rw [show k + 1 + i = k + (i + 1) by omega]
theorem enum_en (xs : List D) : enumD xs = en 0 xs := by
  apply List.ext_getElem?
  intro i
  rw [en_get]
  by_cases h : i < xs.length
  · rw [List.getElem?_eq_getElem h, enum_get (List.getElem?_eq_getElem h)]
    simp
  · rw [List.getElem?_eq_none (by rw [enum_len]; omega), List.getElem?_eq_none (by omega)]
    rfl
theorem w1 : (("mark" : Str) = "row") = False := eq_false (by decide +kernel)
theorem w2 : (("barrier" : Str) = "row") = False := eq_false (by decide +kernel)
theorem w3 : (("row" : Str) = "mark") = False := eq_false (by decide +kernel)
theorem w4 : (("barrier" : Str) = "mark") = False := eq_false (by decide +kernel)
theorem w5 : (("row" : Str) = "barrier") = False := eq_false (by decide +kernel)
theorem w6 : (("mark" : Str) = "barrier") = False := eq_false (by decide +kernel)
/-- the condition of both judges -/
theorem bad_ev {Φ : List FE} {ρ : LS} {s : S1} {iw it im il : Nat} {x : Th} {mark last : Int} (h1 : ρ[iw]? = some (.d (.str (tword x)))) (h2 : ρ[it]? = some (.d (ttold x))) (h3 : ρ[im]? = some (.d (.int mark))) (h4 : ρ[il]? = some (.d (.int last))) :
    ev Φ (.or_ (.and_ (.cmp .eq (.nm iw) (.k (.str "row"))) (.cmp .lt (.idx (.nm it) (.k (.int 0))) (.nm im))) (.or_ (.and_ (.cmp .eq (.nm iw) (.k (.str "mark"))) (.cmp .lt (.nm it) (.nm im))) (.and_ (.cmp .eq (.nm iw) (.k (.str "barrier"))) (.cmp .le (.nm it) (.nm il))))) ρ s = some (.bool (tbad mark last x), s) := by
  cases x with
  | mark m =>
    simp only [tword, ttold] at h1 h2
    simp [ev, h1, h2, h3, h4, dCmp, dEqT, tru, Option.bind, Option.map, w1, w6, dLt, tbad]
  | row t w a b =>
    simp only [tword, ttold] at h1 h2
    simp [ev, h1, h2, h3, h4, dCmp, dEqT, tru, Option.bind, Option.map, w3, w5, dLt, tbad, dIdx, atI, ixN]
  | bar n =>
    simp only [tword, ttold] at h1 h2
    simp [ev, h1, h2, h3, h4, dCmp, dEqT, tru, Option.bind, Option.map, w2, w4, dLe, tbad]
theorem isW {Φ : List FE} {ρ : LS} {s : S1} {iw : Nat} {x : Th} {y : Str} (h1 : ρ[iw]? = some (.d (.str (tword x)))) : ev Φ (.cmp .eq (.nm iw) (.k (.str y))) ρ s = some (.bool (decide (tword x = y)), s) := by
  simp [ev, h1, dCmp, dEqT, Option.bind, Option.map]
theorem judge_loop : ∀ (ts : List Th) (k : Nat) (mark last : Int) (x0 x3 x4 x5 : SS) (s : S1), ∃ r, forRun (runs F_08 M_judge_channel_1) (.two (.nm 3) (.two (.nm 4) (.nm 5))) (en k (tds ts)) [x0, .frz (.int mark), .frz (.int last), x3, x4, x5] s = some r ∧
    ((jud mark last k ts = .none ∧ ∃ ρ', r = .nx ρ' s) ∨ r = .rt (jud mark last k ts) s)
  | [], k, mark, last, x0, x3, x4, x5, s => ⟨_, rfl, .inl ⟨rfl, _, rfl⟩⟩
  | x :: ts, k, mark, last, x0, x3, x4, x5, s => by
    have eb : bindS (.two (.nm 3) (.two (.nm 4) (.nm 5))) (.tuple [.int (k : Nat), td x]) [x0, .frz (.int mark), .frz (.int last), x3, x4, x5] = some [x0, .frz (.int mark), .frz (.int last), .frz (.int k), .frz (.str (tword x)), .frz (ttold x)] := by
      simp [bindS, td, Option.bind]
    have hc := bad_ev (Φ := F_08) (s := s) (iw := 4) (it := 5) (im := 1) (il := 2) (x := x) (mark := mark) (last := last) (ρ := [x0.r, .d (.int mark), .d (.int last), .d (.int k), .d (.str (tword x)), .d (ttold x)]) rfl rfl rfl rfl
    rw [show en k (tds (x :: ts)) = .tuple [.int (k : Nat), td x] :: en (k + 1) (tds ts) from rfl, forRun, eb]
    cases hb : tbad mark last x with
    | true =>
      rw [hb] at hc
      refine ⟨_, ?_, .inr rfl⟩
      have : runs F_08 M_judge_channel_1 [x0, .frz (.int mark), .frz (.int last), .frz (.int k), .frz (.str (tword x)), .frz (ttold x)] s = some (.rt (.tuple [.str (tword x), .int k]) s) := by
        refine runs_rt (run_t hc rfl (runs_rt (run_ret ?_)))
        simp [ev, evs, SS.r, Option.bind, Option.map, sz2]
      simp only [Option.bind, this, jud, hb, if_true]
    | false =>
      rw [hb] at hc
      have : runs F_08 M_judge_channel_1 [x0, .frz (.int mark), .frz (.int last), .frz (.int k), .frz (.str (tword x)), .frz (ttold x)] s = some (.nx [x0, .frz (.int (nMark mark x)), .frz (.int (nLast last x)), .frz (.int k), .frz (.str (tword x)), .frz (ttold x)] s) := by
        refine runs_nx _ s (run_skip hc) ?_
        refine runs_nx [x0, .frz (.int (nMark mark x)), .frz (.int last), .frz (.int k), .frz (.str (tword x)), .frz (ttold x)] s (run_set (d := .int (nMark mark x)) ?_ rfl (by simp)) ?_
        · cases x <;> simp [ev, vw, SS.f, dCmp, dEqT, tru, Option.bind, Option.map, tword, ttold, nMark, w3, w4]
        refine runs_nx _ s (run_set (d := .int (nLast last x)) ?_ rfl (by simp)) rfl
        cases x <;> simp [ev, vw, SS.f, dCmp, dEqT, tru, Option.bind, Option.map, tword, ttold, nLast, w5, w6]
      obtain ⟨r, h1, h2⟩ := judge_loop ts (k + 1) (nMark mark x) (nLast last x) x0 (.frz (.int k)) (.frz (.str (tword x))) (.frz (ttold x)) s
      refine ⟨r, ?_, ?_⟩
      · simp only [Option.bind, this]
        exact h1
      · rw [jud, hb]
        exact h2
theorem fault_loop : ∀ (ts : List Th) (k : Nat) (mark last : Int) (x0 x3 x4 x5 x6 : SS) (s : S1), ∃ r, forRun (runs F_15 M_w_fault_1) (.two (.nm 3) (.nm 4)) (en k (tds ts)) [x0, .frz (.int mark), .frz (.int last), x3, x4, x5, x6] s = some r ∧
    ((jud mark last k ts = .none ∧ ∃ ρ', r = .nx ρ' s) ∨ r = .rt (jud mark last k ts) s)
  | [], k, mark, last, x0, x3, x4, x5, x6, s => ⟨_, rfl, .inl ⟨rfl, _, rfl⟩⟩
  | x :: ts, k, mark, last, x0, x3, x4, x5, x6, s => by
    have eb : bindS (.two (.nm 3) (.nm 4)) (.tuple [.int (k : Nat), td x]) [x0, .frz (.int mark), .frz (.int last), x3, x4, x5, x6] = some [x0, .frz (.int mark), .frz (.int last), .frz (.int k), .frz (td x), x5, x6] := by
      simp [bindS, Option.bind]
    have e0 : run F_15 (.unp (.two (.nm 5) (.nm 6)) .f (.nm 4)) [x0, .frz (.int mark), .frz (.int last), .frz (.int k), .frz (td x), x5, x6] s = some (.nx [x0, .frz (.int mark), .frz (.int last), .frz (.int k), .frz (td x), .frz (.str (tword x)), .frz (ttold x)] s) := by
      simp [run, evM, ev, vw, SS.f, slotOf, bindS, td, Option.bind, Option.map]
    have hc := bad_ev (Φ := F_15) (s := s) (iw := 5) (it := 6) (im := 1) (il := 2) (x := x) (mark := mark) (last := last) (ρ := [x0.r, .d (.int mark), .d (.int last), .d (.int k), .d (td x), .d (.str (tword x)), .d (ttold x)]) rfl rfl rfl rfl
    rw [show en k (tds (x :: ts)) = .tuple [.int (k : Nat), td x] :: en (k + 1) (tds ts) from rfl, forRun, eb]
    cases hb : tbad mark last x with
    | true =>
      rw [hb] at hc
      refine ⟨_, ?_, .inr rfl⟩
      have : runs F_15 M_w_fault_1 [x0, .frz (.int mark), .frz (.int last), .frz (.int k), .frz (td x), x5, x6] s = some (.rt (.tuple [.str (tword x), .int k]) s) := by
        refine runs_nx _ s e0 (runs_rt (run_t hc rfl (runs_rt (run_ret ?_))))
        simp [ev, evs, SS.r, Option.bind, Option.map, sz2]
      simp only [Option.bind, this, jud, hb, if_true]
    | false =>
      rw [hb] at hc
      have : runs F_15 M_w_fault_1 [x0, .frz (.int mark), .frz (.int last), .frz (.int k), .frz (td x), x5, x6] s = some (.nx [x0, .frz (.int (nMark mark x)), .frz (.int (nLast last x)), .frz (.int k), .frz (td x), .frz (.str (tword x)), .frz (ttold x)] s) := by
        refine runs_nx _ s e0 (runs_nx _ s (run_skip hc) ?_)
        have q1 := isW (Φ := F_15) (s := s) (iw := 5) (x := x) (y := "mark") (ρ := [x0.r, .d (.int mark), .d (.int last), .d (.int k), .d (td x), .d (.str (tword x)), .d (ttold x)]) rfl
        have q2 := isW (Φ := F_15) (s := s) (iw := 5) (x := x) (y := "barrier") (ρ := [x0.r, .d (.int (nMark mark x)), .d (.int last), .d (.int k), .d (td x), .d (.str (tword x)), .d (ttold x)]) rfl
        refine runs_nx [x0, .frz (.int (nMark mark x)), .frz (.int last), .frz (.int k), .frz (td x), .frz (.str (tword x)), .frz (ttold x)] s ?_ (runs_nx [x0, .frz (.int (nMark mark x)), .frz (.int (nLast last x)), .frz (.int k), .frz (td x), .frz (.str (tword x)), .frz (ttold x)] s ?_ rfl)
        · cases x with
          | mark m => exact run_t q1 (by simp [tru, tword]) (runs_nx _ s (run_set (d := .int m) (by simp [ev, vw, SS.f, ttold]) rfl (by simp)) rfl)
          | row => exact run_f q1 (by simp [tru, tword, w3]) rfl
          | bar => exact run_f q1 (by simp [tru, tword, w4]) rfl
        · cases x with
          | bar m => exact run_t q2 (by simp [tru, tword]) (runs_nx _ s (run_set (d := .int m) (by simp [ev, vw, SS.f, ttold]) rfl (by simp)) rfl)
          | row => exact run_f q2 (by simp [tru, tword, w5]) rfl
          | mark => exact run_f q2 (by simp [tru, tword, w6]) rfl
      obtain ⟨r, h1, h2⟩ := fault_loop ts (k + 1) (nMark mark x) (nLast last x) x0 (.frz (.int k)) (.frz (td x)) (.frz (.str (tword x))) (.frz (ttold x)) s
      refine ⟨r, ?_, ?_⟩
      · simp only [Option.bind, this]
        exact h1
      · rw [jud, hb]
        exact h2
end Os
end
section
set_option linter.all false
set_option maxRecDepth 100000
set_option maxHeartbeats 4000000
namespace Os
open PySem PySem.Spec PyProof.Rows L2
def isSeq (x : D) : Bool := match x with
  | .list _ => true
  | .tuple _ => true
  | _ => false
theorem ev_enum {Φ : List FE} {e : ME} {ρ : LS} {s s1 : S1} {x : D} {xs : List D} (h : ev Φ e ρ s = some (x, s1)) (hx : seqOf x = some xs) : evi Φ (.enum e) ρ s = some (en 0 xs, s1) := by
  rw [evi, h]
  simp only [Option.bind]
  cases x <;> simp [seqOf] at hx
  · subst hx
    simp [enum_en]
  · subst hx
    simp [enum_en]
theorem judge_sem {ts : List Th} {x : D} {mark : Int} {s : S1} (hx : seqOf x = some (tds ts)) : E_judge_channel.sem [.d x, .d (.int mark)] s = some (jud mark 0 0 ts, s) := by
  obtain ⟨r, h1, h2⟩ := judge_loop ts 0 mark 0 (.frz x) .un .un .un s
  refine sem_rt [.frz x, .frz (.int mark), .un, .un, .un, .un] rfl ?_
  refine runs_nx [.frz x, .frz (.int mark), .frz (.int 0), .un, .un, .un] s (run_set (d := .int 0) (by rw [ev]) rfl (by simp)) ?_
  rcases h2 with ⟨h3, ρ', rfl⟩ | rfl
  · refine runs_nx ρ' s (run_for (ev_enum (ev_nm rfl) hx) h1) (runs_rt (run_ret ?_))
    rw [ev, h3]
  · exact runs_rt (run_for (ev_enum (ev_nm rfl) hx) h1)
theorem fault_sem {ts : List Th} {x : D} {mark : Int} {s : S1} (hx : seqOf x = some (tds ts)) : E_w_fault.sem [.d x, .d (.int mark)] s = some (jud mark 0 0 ts, s) := by
  obtain ⟨r, h1, h2⟩ := fault_loop ts 0 mark 0 (.frz x) .un .un .un .un s
  refine sem_rt [.frz x, .frz (.int mark), .un, .un, .un, .un, .un] rfl ?_
  refine runs_nx [.frz x, .frz (.int mark), .frz (.int 0), .un, .un, .un, .un] s (run_set (d := .int 0) (by rw [ev]) rfl (by simp)) ?_
  rcases h2 with ⟨h3, ρ', rfl⟩ | rfl
  · refine runs_nx ρ' s (run_for (ev_enum (ev_nm rfl) hx) h1) (runs_rt (run_ret ?_))
    rw [ev, h3]
  · exact runs_rt (run_for (ev_enum (ev_nm rfl) hx) h1)
theorem tw_ok (x : Th) : PyData.strOk (tword x) = true ∧ (tword x).length ≤ 10 := by
  cases x with
  | mark => exact ⟨by show PyData.strOk ("mark" : Str) = true; decide +kernel, by show ("mark" : Str).length ≤ 10; decide +kernel⟩
  | row => exact ⟨by show PyData.strOk ("row" : Str) = true; decide +kernel, by show ("row" : Str).length ≤ 10; decide +kernel⟩
  | bar => exact ⟨by show PyData.strOk ("barrier" : Str) = true; decide +kernel, by show ("barrier" : Str).length ≤ 10; decide +kernel⟩
theorem jud_tm : ∀ (ts : List Th) (mark last : Int) (k : Nat), k + ts.length < 1000 → Tm 2 100 (jud mark last k ts)
  | [], _, _, _, _ => Tm.none
  | x :: ts, mark, last, k, h => by
    rw [List.length_cons] at h
    rw [jud]
    split
    · refine (Tm.tup (k := 0) (m := 10) (n := 50) (fun z hz => ?_) (by show 2 * 11 ≤ 50; decide)).mono (by decide) (by decide)
      simp only [List.mem_cons, List.not_mem_nil, or_false] at hz
      rcases hz with rfl | rfl
      · exact Tm.str (tw_ok x).1 (tw_ok x).2
      · exact Tm.int (by omega)
    · exact jud_tm ts _ _ _ (by omega)

/-! where a barrier stands -/
def isBar (n : Int) : Th → Bool
  | .bar m => m == n
  | _ => false
def okTh : Th → Prop
  | .mark m => m.natAbs < 10 ^ 10
  | .row t w a b => t.natAbs < 10 ^ 10 ∧ w.natAbs < 10 ^ 10 ∧ (∀ x, a = some x → PyData.strOk x = true ∧ x.length ≤ 10) ∧ ∀ i, b = some i → i.natAbs < 10 ^ 10
  | .bar n => n.natAbs < 10 ^ 10
theorem td_tm {x : Th} (h : okTh x) : Tm 3 200 (td x) := by
  have hw : Tm 2 90 (.str (tword x)) := Tm.str (tw_ok x).1 (Nat.le_trans (tw_ok x).2 (by decide))
  have ht : Tm 2 90 (ttold x) := by
    cases x with
    | mark m => exact Tm.int (by simp only [okTh] at h; omega)
    | bar m => exact Tm.int (by simp only [okTh] at h; omega)
    | row t w a b =>
      obtain ⟨h1, h2, h3, h4⟩ := h
      refine (Tm.tup (k := 1) (m := 22) (n := 80) (fun z hz => ?_) (by show 3 * 23 ≤ 80; decide)).mono (by decide) (by decide)
      simp only [List.mem_cons, List.not_mem_nil, or_false] at hz
      rcases hz with rfl | rfl | rfl
      · exact Tm.int (by omega)
      · exact Tm.int (by omega)
      · refine Tm.tup (k := 0) (m := 10) (n := 22) (fun z hz => ?_) (by show 2 * 11 ≤ 22; decide)
        simp only [List.mem_cons, List.not_mem_nil, or_false] at hz
        rcases hz with rfl | rfl
        · cases a with
          | none => exact Tm.none
          | some x => exact Tm.str (h3 x rfl).1 (h3 x rfl).2
        · cases b with
          | none => exact Tm.none
          | some x => exact Tm.int (by have := h4 x rfl; omega)
  refine Tm.tup (k := 2) (m := 90) (fun z hz => ?_) (by show 2 * 91 ≤ 200; decide)
  simp only [List.mem_cons, List.not_mem_nil, or_false] at hz
  rcases hz with rfl | rfl
  · exact hw
  · exact ht
def OkTs (ts : List Th) : Prop := (∀ x ∈ ts, okTh x) ∧ ts.length ≤ 100
theorem tds_tm {ts : List Th} (h : OkTs ts) : Tm 4 30000 (.tuple (tds ts)) := Tm.tup (m := 200) (fun z hz => by
  obtain ⟨x, hx, rfl⟩ := List.mem_map.mp hz
  exact td_tm (h.1 x hx)) (by have := h.2; simp only [tds, List.length_map]; omega)
theorem td_eqv (x : Th) (n : Int) : PyData.eqv (td x) (td (.bar n)) = isBar n x := by
  have s1 : (Str.ofString "mark" == Str.ofString "barrier") = false := by decide +kernel
  have s2 : (Str.ofString "row" == Str.ofString "barrier") = false := by decide +kernel
  cases x <;> simp [td, tword, ttold, PyData.eqv, PyData.eqvAll, isBar, s1, s2]
def kO : Option Str → NestedKey
  | none => .none
  | some x => .text x
def kI : Option Int → NestedKey
  | none => .none
  | some x => .num x
def kt : Th → NestedKey
  | .mark m => .tup [.text "mark", .num m]
  | .row t w a b => .tup [.text "row", .tup [.num t, .num w, .tup [kO a, kI b]]]
  | .bar n => .tup [.text "barrier", .num n]
theorem kt_key (x : Th) : keyOf (td x) = some (kt x) := by
  cases x with
  | mark => simp [td, tword, ttold, keyOf, keysOf, kt]
  | bar => simp [td, tword, ttold, keyOf, keysOf, kt]
  | row t w a b => cases a <;> cases b <;> simp [td, tword, ttold, keyOf, keysOf, kt, oS, oI, kO, kI]
theorem kt_keys : ∀ ts : List Th, keysOf (tds ts) = some (ts.map kt)
  | [] => rfl
  | x :: ts => by
    have := kt_keys ts
    simp only [tds] at this
    simp [tds, keysOf, kt_key, this]
theorem kt_bar (x : Th) (n : Int) : (kt x == kt (.bar n)) = isBar n x := by
  have s1 : ¬ (("mark" : Str) = "barrier") := by decide +kernel
  have s2 : ¬ (("row" : Str) = "barrier") := by decide +kernel
  cases x with
  | mark m =>
    rw [beq_eq_false_iff_ne.mpr]
    · rfl
    · simp [kt, s1]
  | row t w a b =>
    rw [beq_eq_false_iff_ne.mpr]
    · rfl
    · simp [kt, s2]
  | bar m =>
    simp only [isBar]
    rw [Bool.eq_iff_iff]
    simp [kt]
def posN (n : Int) (ts : List Th) : Nat := ts.findIdx (isBar n)
theorem any_bar (n : Int) (ts : List Th) : (tds ts).any (fun y => PyData.eqv y (td (.bar n))) = ts.any (isBar n) := by
  simp only [tds, List.any_map]
  congr
  funext x
  exact td_eqv x n
theorem idx_bar (n : Int) : ∀ ts : List Th, (ts.map kt).idxOf (kt (.bar n)) = posN n ts
  | [] => rfl
  | x :: ts => by
    have ih := idx_bar n ts
    simp only [posN] at ih
    simp only [List.map_cons, List.idxOf_cons, posN, List.findIdx_cons, kt_bar, ih]
theorem place_sem {ts : List Th} {n : Int} {s : S1} (h : OkTs ts) (hn : n.natAbs < 10 ^ 10) : E_place_of.sem [.d (.tuple (tds ts)), .d (.int n)] s = some (.int (posN n ts : Nat), s) := by
  have eb : ∀ ρ : LS, ρ[1]? = some (.d (.int n)) → ev F_04 (.tup (.cons (.k (.str "barrier")) (.cons (.nm 1) .nil))) ρ s = some (td (.bar n), s) := fun ρ h1 => by
    simp [ev, evs, h1, Option.bind, Option.map, sz2, td, tword, ttold]
  have hin : dIn (td (.bar n)) (.tuple (tds ts)) = some (ts.any (isBar n)) := by
    simp only [dIn]
    rw [if_pos ⟨(td_tm (x := .bar n) hn).shaped (by decide), (tds_tm h).shaped (by decide)⟩, any_bar]
  refine sem_rt [.frz (.tuple (tds ts)), .frz (.int n)] rfl (runs_rt (run_ret ?_))
  have ec : ev F_04 (.cmp .isin (.tup (.cons (.k (.str "barrier")) (.cons (.nm 1) .nil))) (.nm 0)) [.d (.tuple (tds ts)), .d (.int n)] s = some (.bool (ts.any (isBar n)), s) := ev_cmp (eb _ rfl) (ev_nm rfl) hin
  cases ha : ts.any (isBar n) with
  | true =>
    rw [ha] at ec
    refine ev_ite_t ec ?_
    rw [ev, ev_nm (x := .tuple (tds ts)) rfl]
    simp only [Option.bind, eb [.d (.tuple (tds ts)), .d (.int n)] rfl, dIndex, kt_keys, kt_key, idx_bar]
    have hmem : kt (.bar n) ∈ ts.map kt := by
      obtain ⟨x, hx, hb⟩ := List.any_eq_true.mp ha
      have : kt x = kt (.bar n) := by
        have := kt_bar x n
        rw [hb] at this
        exact eq_of_beq this
      rw [← this]
      exact List.mem_map_of_mem hx
    have hdep : (kt (.bar n)).depth ≤ 60 := by simp [kt, NestedKey.depth, NestedKey.depthAll]
    rw [if_pos ⟨hmem, hdep⟩]
    rfl
  | false =>
    rw [ha] at ec
    refine ev_ite_f ec (ev_b1 (ev_nm rfl) ?_)
    have : posN n ts = ts.length := by
      unfold posN
      rw [List.findIdx_eq_length]
      intro x hx
      have := List.any_eq_false.mp ha x hx
      simpa using this
    rw [lenT, this]
    simp [tds]
end Os
end
section
set_option linter.all false
set_option maxRecDepth 100000
set_option maxHeartbeats 4000000
namespace Os
open PySem PySem.Spec PyProof.Rows L2
def cutTh (ts : List Th) (lo hi : Option Int) : List Th := (ts.drop (HT.sIx ts.length 0 lo)).take (HT.sIx ts.length ts.length hi - HT.sIx ts.length 0 lo)
theorem cut_tds (ts : List Th) (lo hi : Option Int) : cutD (tds ts) lo hi = tds (cutTh ts lo hi) := by
  simp only [cutD, cutTh, tds, List.length_map, List.map_take, List.map_drop]
theorem ok_cut {ts : List Th} (h : OkTs ts) (lo hi : Option Int) : OkTs (cutTh ts lo hi) :=
  ⟨fun x hx => h.1 x (List.mem_of_mem_drop (List.mem_of_mem_take hx)), by
    have := h.2
    simp only [cutTh, List.length_take, List.length_drop]
    omega⟩
theorem before_sem {ts : List Th} {n : Int} {s : S1} (h : OkTs ts) (hn : n.natAbs < 10 ^ 10) : E_before.sem [.d (.tuple (tds ts)), .d (.int n)] s = some (.tuple (tds (cutTh ts none (some (posN n ts : Nat)))), s) := by
  refine sem_rt [.frz (.tuple (tds ts)), .frz (.int n)] rfl (runs_rt (run_ret ?_))
  have ep : ev F_05 (.call 4 (.cons (.nm 0) (.cons (.nm 1) .nil))) [.d (.tuple (tds ts)), .d (.int n)] s = some (.int (posN n ts : Nat), s) := ev_call (eva_cons (ev_nm rfl) (eva_cons (ev_nm rfl) eva_nil)) P_05_4 rfl (place_sem h hn)
  show ev F_05 _ [.d (.tuple (tds ts)), .d (.int n)] s = _
  rw [ev, ev_nm rfl]
  simp only [Option.bind, evo, ep, bnd, Option.map, dSlc, cut_tds]
theorem behind_sem {ts : List Th} {n : Int} {s : S1} (h : OkTs ts) (hn : n.natAbs < 10 ^ 10) : E_behind.sem [.d (.tuple (tds ts)), .d (.int n)] s = some (.tuple (tds (cutTh ts (some ((posN n ts : Nat) + 1)) none)), s) := by
  refine sem_rt [.frz (.tuple (tds ts)), .frz (.int n)] rfl (runs_rt (run_ret ?_))
  have ep : ev F_06 (.call 4 (.cons (.nm 0) (.cons (.nm 1) .nil))) [.d (.tuple (tds ts)), .d (.int n)] s = some (.int (posN n ts : Nat), s) := ev_call (eva_cons (ev_nm rfl) (eva_cons (ev_nm rfl) eva_nil)) P_06_4 rfl (place_sem h hn)
  have e1 : ev F_06 (.op .add (.call 4 (.cons (.nm 0) (.cons (.nm 1) .nil))) (.k (.int 1))) [.d (.tuple (tds ts)), .d (.int n)] s = some (.int ((posN n ts : Nat) + 1), s) := by
    rw [ev, ep]
    simp only [Option.bind, ev, dOp, Option.map]
  show ev F_06 _ [.d (.tuple (tds ts)), .d (.int n)] s = _
  rw [ev, ev_nm rfl]
  simp only [Option.bind, evo, e1, bnd, Option.map, dSlc, cut_tds]
/-! the barriers' numbers -/
def barN : Th → Option Int
  | .bar n => some n
  | _ => none
def bars (ts : List Th) : List Int := ts.filterMap barN
def pB : D → Bool
  | .tuple [.str w, _] => decide (w = "barrier")
  | _ => false
def fB : D → D
  | .tuple [_, x] => x
  | _ => .none
theorem bars_eq : ∀ ts : List Th, ((tds ts).filter pB).map fB = (bars ts).map .int
  | [] => rfl
  | x :: ts => by
    have ih := bars_eq ts
    simp only [tds, bars] at ih
    cases x with
    | mark => simp [tds, bars, td, tword, pB, barN, w6, ih, List.filterMap_cons]
    | row => simp [tds, bars, td, tword, pB, barN, w5, ih, List.filterMap_cons]
    | bar n => simp [tds, bars, td, tword, ttold, pB, fB, barN, ih, List.filterMap_cons]
theorem bars_len (ts : List Th) : (bars ts).length ≤ ts.length := List.length_filterMap_le ..
theorem numbers_sem {ts : List Th} {s : S1} (h : OkTs ts) : E_numbers_in.sem [.d (.tuple (tds ts))] s = some (.tuple ((bars ts).map .int), s) := by
  refine sem_rt [.frz (.tuple (tds ts)), .un, .un] rfl (runs_rt (run_ret (ev_b1 (d := .list ((bars ts).map .int)) (ev_comp (xs := tds ts) (s1 := s) ?_ ?_ ?_) rfl)))
  · simp [evi, ev, SS.r, seqOf, Option.bind, Option.map]
  · rw [compRun_pure pB fB fun d hd => ?_, bars_eq]
    obtain ⟨x, _, rfl⟩ := List.mem_map.mp hd
    refine ⟨[.d (.tuple (tds ts)), .d (.str (tword x)), .d (ttold x)], by simp [bindT, wipeS, SS.r, td, Option.bind], ?_, fun _ => ?_⟩
    · simp only [evt, ev, List.getElem?_cons_succ, List.getElem?_cons_zero, Option.bind, dCmp, dEqT, Option.map, tru_b, td, pB]
      cases decide (tword x = "barrier") <;> rfl
    · simp [ev, td, fB]
  · have := bars_len ts
    have h2 := h.2
    have : sizeLine = 16777216 := sizeLine_eq
    rw [List.length_map]
    omega
theorem numbersL {ρ : LS} {ts : List Th} {s : S1} (h : OkTs ts) (h2 : ρ[2]? = some (.d (.tuple (tds ts)))) (h4 : 4 < ρ.length) : ev F_16 (.comp (.idx (.nm 4) (.k (.int 1))) (.nm 4) (.seq (.nm 2)) (.cons (.cmp .eq (.idx (.nm 4) (.k (.int 0))) (.k (.str "barrier"))) .nil) [4]) ρ s = some (.list ((bars ts).map .int), s) := by
  refine ev_comp (xs := tds ts) (s1 := s) ?_ ?_ ?_
  · simp [evi, ev, h2, seqOf, Option.bind, Option.map]
  · rw [compRun_pure pB fB fun d hd => ?_, bars_eq]
    obtain ⟨x, _, rfl⟩ := List.mem_map.mp hd
    have e4 : ((ρ.set 4 SL.un).set 4 (SL.d (td x)))[4]? = some (SL.d (td x)) := by
      rw [List.getElem?_set_self]
      rw [List.length_set]
      exact h4
    refine ⟨(ρ.set 4 SL.un).set 4 (SL.d (td x)), by simp [bindT, wipeS, h4], ?_, fun _ => ?_⟩
    · simp only [td] at e4
      simp only [evt, ev, e4, td, Option.bind, dIdx]
      simp only [show atI [PyData.str (tword x), ttold x] 0 = some (PyData.str (tword x)) from rfl, Option.map, dCmp, dEqT, tru_b, pB]
      cases decide (tword x = "barrier") <;> rfl
    · simp only [td] at e4
      simp only [ev, e4, td, Option.bind, dIdx]
      rfl
  · have := bars_len ts
    have h2 := h.2
    have : sizeLine = 16777216 := sizeLine_eq
    rw [List.length_map]
    omega
/-! draws -/
theorem pick_idx {Φ : List FE} {e : ME} {ρ : LS} {S : Src} {xs : List D} {f i : Nat} {m : Int} (he : ev Φ e ρ (some S) = some (.list xs, some S)) (hP : Φ[f]? = some pickF) (hl : (xs.length : Int) = m) (hm : 1 ≤ m) (hz : m < 1000) (h0 : ρ[i]? = some .src) :
    ∃ x ∈ xs, ev Φ (.idx e (.call f (.src i (.cons (.k (.int m)) .nil)))) ρ (some S) = some (x, some (pickS m S).2) := by
  have hr := pickS_range (m := m) (S := S) hm
  have hk : (pickS m S).1.toNat < xs.length := by omega
  refine ⟨xs[(pickS m S).1.toNat], List.getElem_mem hk, ?_⟩
  have ep : ev Φ (.call f (.src i (.cons (.k (.int m)) .nil))) ρ (some S) = some (.int (pickS m S).1, some (pickS m S).2) :=
    ev_call (eva_src h0 (eva_cons (by rw [ev]) eva_nil)) hP rfl (pick_sem (by omega))
  rw [ev, he]
  simp only [Option.bind, ep, dIdx]
  unfold atI ixN
  rw [if_pos (by omega), if_pos (by omega)]
  simp [hk]
theorem value_text (S : Src) : ∃ a S', (∀ x, a = some x → PyData.strOk x = true ∧ x.length ≤ 10) ∧ E_w_draw_value.sem [.src, .d (.str "text")] (some S) = some (oS a, some S') := by
  have hp : ev F_11 (.call 9 (.src 0 (.cons (.k (.int 9)) .nil))) [.src, .d (.str "text")] (some S) = some (.int (pickS 9 S).1, some (pickS 9 S).2) :=
    ev_call (eva_src rfl (eva_cons (by rw [ev]) eva_nil)) P_11_9 rfl (pick_sem (by decide))
  by_cases q : (pickS 9 S).1 = 0
  · refine ⟨none, (pickS 9 S).2, fun x h => (nomatch h), sem_rt [.src, .frz (.str "text")] rfl (runs_rt (run_t (x := .bool true) (ev_cmp hp (by rw [ev]) ?_) rfl (runs_rt (run_ret (by rw [ev]; rfl)))))⟩
    rw [q]
    rfl
  · obtain ⟨x, hx, h⟩ := pick_idx (Φ := F_11) (f := 9) (i := 0) (m := 6) (S := (pickS 9 S).2) (ρ := [.src, .d (.str "text")]) (e := .lst (.cons (.k (.str "a")) (.cons (.k (.str "b")) (.cons (.k (.str "c")) (.cons (.k (.str "")) (.cons (.k (.str "ab")) (.cons (.k (.str "z 9")) .nil))))))) (xs := [.str "a", .str "b", .str "c", .str "", .str "ab", .str "z 9"]) (by
      have : (6 ≤ sizeLine) = True := eq_true (by decide)
      simp [ev, evs, Option.bind, Option.map, this]) P_11_9 rfl (by decide) (by decide) rfl
    have hx' : ∃ y : Str, x = .str y ∧ PyData.strOk y = true ∧ y.length ≤ 10 := by
      simp only [List.mem_cons, List.not_mem_nil, or_false] at hx
      rcases hx with rfl | rfl | rfl | rfl | rfl | rfl <;> exact ⟨_, rfl, by decide +kernel, by decide +kernel⟩
    obtain ⟨y, rfl, hy⟩ := hx'
    refine ⟨some y, _, fun z hz => by cases hz; exact hy, sem_rt [.src, .frz (.str "text")] rfl (runs_nx _ (some (pickS 9 S).2) (run_skip (ev_cmp hp (by rw [ev]) ?_)) (runs_nx _ (some (pickS 9 S).2) (run_skip (ev_cmp (ev_nm rfl) (by rw [ev]) ?_)) (runs_rt (run_ret h))))⟩
    · simp [dCmp, dEqI, q]
    · have : (("text" : Str) = "number") = False := eq_false (by decide +kernel)
      simp [dCmp, dEqT, this]
theorem value_num (S : Src) : ∃ b S', (∀ i, b = some i → i.natAbs < 10 ^ 10) ∧ E_w_draw_value.sem [.src, .d (.str "number")] (some S) = some (oI b, some S') := by
  have hp : ev F_11 (.call 9 (.src 0 (.cons (.k (.int 9)) .nil))) [.src, .d (.str "number")] (some S) = some (.int (pickS 9 S).1, some (pickS 9 S).2) :=
    ev_call (eva_src rfl (eva_cons (by rw [ev]) eva_nil)) P_11_9 rfl (pick_sem (by decide))
  by_cases q : (pickS 9 S).1 = 0
  · refine ⟨none, (pickS 9 S).2, fun x h => (nomatch h), sem_rt [.src, .frz (.str "number")] rfl (runs_rt (run_t (x := .bool true) (ev_cmp hp (by rw [ev]) ?_) rfl (runs_rt (run_ret (by rw [ev]; rfl)))))⟩
    rw [q]
    rfl
  · obtain ⟨x, hx, h⟩ := pick_idx (Φ := F_11) (f := 9) (i := 0) (m := 8) (S := (pickS 9 S).2) (ρ := [.src, .d (.str "number")]) (e := .lst (.cons (.k (.int 0)) (.cons (.k (.int 1)) (.cons (.k (.int 2)) (.cons (.k (.int 3)) (.cons (.k (.int 5)) (.cons (.op .sub (.k (.int 0)) (.k (.int 1))) (.cons (.k (.int 7)) (.cons (.op .pow (.k (.int 10)) (.k (.int 8))) .nil))))))))) (xs := [.int 0, .int 1, .int 2, .int 3, .int 5, .int (-1), .int 7, .int (10 ^ 8)]) (by
      simp [ev, evs, Option.bind, Option.map, sz8, dOp]) P_11_9 rfl (by decide) (by decide) rfl
    have hx' : ∃ y : Int, x = .int y ∧ y.natAbs < 10 ^ 10 := by
      simp only [List.mem_cons, List.not_mem_nil, or_false] at hx
      rcases hx with rfl | rfl | rfl | rfl | rfl | rfl | rfl | rfl <;> exact ⟨_, rfl, by decide⟩
    obtain ⟨y, rfl, hy⟩ := hx'
    refine ⟨some y, _, fun z hz => by cases hz; exact hy, sem_rt [.src, .frz (.str "number")] rfl (runs_nx _ (some (pickS 9 S).2) (run_skip (ev_cmp hp (by rw [ev]) ?_)) (runs_rt (run_t (x := .bool true) (ev_cmp (ev_nm rfl) (by rw [ev]) ?_) rfl (runs_rt (run_ret h)))))⟩
    · simp [dCmp, dEqI, q]
    · simp [dCmp, dEqT]
end Os
end
section
set_option linter.all false
set_option maxRecDepth 100000
set_option maxHeartbeats 4000000
namespace Os
open PySem PySem.Spec PyProof.Rows L2
def OkR : Int → Int → List Th → Int → Int → Prop
  | m, l, [], m', l' => m = m' ∧ l = l'
  | m, l, x :: ts, m', l' => tbad m l x = false ∧ OkR (nMark m x) (nLast l x) ts m' l'
theorem OkR.jud : ∀ {ts : List Th} {m l m' l' : Int} (k : Nat), OkR m l ts m' l' → jud m l k ts = .none
  | [], _, _, _, _, _, _ => rfl
  | x :: ts, m, l, m', l', k, h => by
    rw [Os.jud, h.1, if_neg (by decide)]
    exact OkR.jud (k + 1) h.2
theorem OkR.snoc : ∀ {ts : List Th} {m l m' l' : Int} {x : Th}, OkR m l ts m' l' → tbad m' l' x = false → OkR m l (ts ++ [x]) (nMark m' x) (nLast l' x)
  | [], m, l, m', l', x, h, hb => by
    obtain ⟨rfl, rfl⟩ := h
    exact ⟨hb, rfl, rfl⟩
  | y :: ts, m, l, m', l', x, h, hb => ⟨h.1, OkR.snoc h.2 hb⟩
theorem run_app {Φ : List FE} {i : Nat} {e : ME} {ρ : LSS} {s s1 : S1} {xs : List D} {d : D} (h0 : ρ[i]? = some (.own xs)) (h : ev Φ e (ρ.map SS.f) s = some (d, s1)) (hz : xs.length < sizeLine) : run Φ (.app i .f e) ρ s = some (.nx (ρ.set i (.own (xs ++ [d]))) s1) := by
  rw [run, h0]
  simp only [evM, vw, h, Option.bind, slotOf, Option.map, hz, if_true]
def ro (mark : Int) (a2 a3 : SS) (ts : List Th) (a5 a6 a7 a8 : SS) : LSS := [.src, .frz (.int mark), a2, a3, .own (tds ts), a5, a6, a7, a8]
theorem tz {ts : List Th} (h : ts.length < 100) : (tds ts).length < sizeLine := by
  have : sizeLine = 16777216 := sizeLine_eq
  simp only [tds, List.length_map]
  omega
theorem item_run {mark l : Int} {a2 a3 a5 a6 a7 a8 : SS} {ts : List Th} {S : Src} (hm : mark.natAbs < 10 ^ 6) (hl : ts.length < 90) :
    ∃ x b7 b8 S', runs F_12 M_w_draw_things_1 (ro mark a2 a3 ts a5 a6 a7 a8) (some S) = some (.nx (ro (nMark mark x) a2 a3 (ts ++ [x]) a5 a6 b7 b8) (some S')) ∧ tbad mark l x = false ∧ nLast l x = l ∧ okTh x ∧ mark ≤ nMark mark x ∧ nMark mark x ≤ mark + 9 := by
  have hp : ∀ (ρ : LS), ρ[0]? = some .src → ev F_12 (.call 9 (.src 0 (.cons (.k (.int 3)) .nil))) ρ (some S) = some (.int (pickS 3 S).1, some (pickS 3 S).2) := fun ρ h0 =>
    ev_call (eva_src h0 (eva_cons (by rw [ev]) eva_nil)) P_12_9 rfl (pick_sem (by decide))
  have es : ∀ x, tds (ts ++ [x]) = tds ts ++ [td x] := fun x => by simp [tds]
  by_cases q : (pickS 3 S).1 = 0
  · obtain ⟨y, hy, h⟩ := pick_idx (Φ := F_12) (f := 9) (i := 0) (m := 4) (S := (pickS 3 S).2) (ρ := (ro mark a2 a3 ts a5 a6 (.frz (.int (pickS 3 S).1)) a8).map SS.f) (e := .lst (.cons (.k (.int 0)) (.cons (.k (.int 1)) (.cons (.k (.int 3)) (.cons (.k (.int 9)) .nil))))) (xs := [.int 0, .int 1, .int 3, .int 9]) (by
      simp [ev, evs, Option.bind, Option.map, sz4]) P_12_9 rfl (by decide) (by decide) rfl
    have hy' : ∃ z : Int, y = .int z ∧ 0 ≤ z ∧ z ≤ 9 := by
      simp only [List.mem_cons, List.not_mem_nil, or_false] at hy
      rcases hy with rfl | rfl | rfl | rfl <;> exact ⟨_, rfl, by decide, by decide⟩
    obtain ⟨z, rfl, z1, z2⟩ := hy'
    refine ⟨.mark (mark + z), .frz (.int (pickS 3 S).1), a8, (pickS 4 (pickS 3 S).2).2, ?_, by simp [tbad]; omega, rfl, by simp only [okTh]; omega, by simp only [nMark]; omega, by simp only [nMark]; omega⟩
    refine runs_nx (ro mark a2 a3 ts a5 a6 (.frz (.int (pickS 3 S).1)) a8) (some (pickS 3 S).2) (run_set (hp _ rfl) rfl (by simp [ro])) ?_
    refine runs_nx (ro (mark + z) a2 a3 (ts ++ [.mark (mark + z)]) a5 a6 (.frz (.int (pickS 3 S).1)) a8) (some (pickS 4 (pickS 3 S).2).2) (run_t (x := .bool true) (ev_cmp (ev_nm rfl) (by rw [ev]) (by simp [dCmp, dEqI, q])) rfl ?_) rfl
    refine runs_nx (ro (mark + z) a2 a3 ts a5 a6 (.frz (.int (pickS 3 S).1)) a8) (some (pickS 4 (pickS 3 S).2).2) (run_set (d := .int (mark + z)) ?_ rfl (by simp [ro])) ?_
    · show ev F_12 _ ((ro mark a2 a3 ts a5 a6 (.frz (.int (pickS 3 S).1)) a8).map SS.f) _ = _
      rw [ev, ev_nm (x := .int mark) rfl]
      simp only [Option.bind, h, dOp, Option.map]
    refine runs_nx _ (some (pickS 4 (pickS 3 S).2).2) (run_app (xs := tds ts) (d := td (.mark (mark + z))) rfl ?_ (tz (by omega))) ?_
    · simp [ev, evs, ro, SS.f, Option.bind, Option.map, sz2, td, tword, ttold]
    · simp [runs, ro, es]
  · obtain ⟨a, S3, ha, ea⟩ := value_text (pickS 3 S).2
    obtain ⟨b, S4, hb, eb⟩ := value_num S3
    have hr := pickS_range (m := 9) (S := S4) (by decide)
    have hp9 : ∀ (ρ : LS), ρ[0]? = some .src → ev F_12 (.call 9 (.src 0 (.cons (.k (.int 9)) .nil))) ρ (some S4) = some (.int (pickS 9 S4).1, some (pickS 9 S4).2) := fun ρ h0 =>
      ev_call (eva_src h0 (eva_cons (by rw [ev]) eva_nil)) P_12_9 rfl (pick_sem (by decide))
    obtain ⟨y, hy, h⟩ := pick_idx (Φ := F_12) (f := 9) (i := 0) (m := 3) (S := (pickS 9 S4).2) (ρ := (ro mark a2 a3 ts a5 a6 (.frz (.int (pickS 3 S).1)) (.frz (.tuple [oS a, oI b]))).map SS.f) (e := .lst (.cons (.k (.int 1)) (.cons (.k (.int 1)) (.cons (.op .sub (.k (.int 0)) (.k (.int 1))) .nil)))) (xs := [.int 1, .int 1, .int (-1)]) (by
      simp [ev, evs, Option.bind, Option.map, sz3, dOp]) P_12_9 rfl (by decide) (by decide) rfl
    have hy' : ∃ z : Int, y = .int z ∧ z.natAbs < 10 ^ 10 := by
      simp only [List.mem_cons, List.not_mem_nil, or_false] at hy
      rcases hy with rfl | rfl | rfl <;> exact ⟨_, rfl, by decide⟩
    obtain ⟨z, rfl, hz⟩ := hy'
    refine ⟨.row (mark + (pickS 9 S4).1) z a b, .frz (.int (pickS 3 S).1), .frz (.tuple [oS a, oI b]), (pickS 3 (pickS 9 S4).2).2, ?_, by simp [tbad]; omega, rfl, ⟨by omega, hz, ha, hb⟩, Int.le_refl _, by simp only [nMark]; omega⟩
    refine runs_nx (ro mark a2 a3 ts a5 a6 (.frz (.int (pickS 3 S).1)) a8) (some (pickS 3 S).2) (run_set (hp _ rfl) rfl (by simp [ro])) ?_
    refine runs_nx (ro mark a2 a3 (ts ++ [.row (mark + (pickS 9 S4).1) z a b]) a5 a6 (.frz (.int (pickS 3 S).1)) (.frz (.tuple [oS a, oI b]))) (some (pickS 3 (pickS 9 S4).2).2) (run_f (x := .bool false) (ev_cmp (ev_nm rfl) (by rw [ev]) (by simp [dCmp, dEqI, q])) rfl ?_) rfl
    refine runs_nx (ro mark a2 a3 ts a5 a6 (.frz (.int (pickS 3 S).1)) (.frz (.tuple [oS a, oI b]))) (some S4) (run_set (d := .tuple [oS a, oI b]) ?_ rfl (by simp [ro])) ?_
    · have e1 : ∀ ρ : LS, ρ[0]? = some .src → ev F_12 (.call 11 (.src 0 (.cons (.k (.str "text")) .nil))) ρ (some (pickS 3 S).2) = some (oS a, some S3) := fun ρ h0 => ev_call (eva_src h0 (eva_cons (by rw [ev]) eva_nil)) P_12_11 rfl ea
      have e2 : ∀ ρ : LS, ρ[0]? = some .src → ev F_12 (.call 11 (.src 0 (.cons (.k (.str "number")) .nil))) ρ (some S3) = some (oI b, some S4) := fun ρ h0 => ev_call (eva_src h0 (eva_cons (by rw [ev]) eva_nil)) P_12_11 rfl eb
      rw [ev, evs, e1 _ rfl]
      simp only [Option.bind, evs, e2 (vw .f (ro mark a2 a3 ts a5 a6 (.frz (.int (pickS 3 S).1)) a8)) rfl, Option.map]
      rfl
    refine runs_nx _ (some (pickS 3 (pickS 9 S4).2).2) (run_app (xs := tds ts) (d := td (.row (mark + (pickS 9 S4).1) z a b)) rfl ?_ (tz (by omega))) ?_
    · have e3 : ev F_12 (.op .add (.nm 1) (.call 9 (.src 0 (.cons (.k (.int 9)) .nil)))) ((ro mark a2 a3 ts a5 a6 (.frz (.int (pickS 3 S).1)) (.frz (.tuple [oS a, oI b]))).map SS.f) (some S4) = some (.int (mark + (pickS 9 S4).1), some (pickS 9 S4).2) := by
        rw [ev, ev_nm (x := .int mark) rfl]
        simp only [Option.bind, hp9 ((ro mark a2 a3 ts a5 a6 (.frz (.int (pickS 3 S).1)) (.frz (.tuple [oS a, oI b]))).map SS.f) rfl, dOp, Option.map]
      rw [ev, evs, ev]
      simp only [Option.bind, evs]
      rw [ev, evs, e3]
      simp only [Option.bind, evs, h, ev_nm (Φ := F_12) (i := 8) (x := .tuple [oS a, oI b]) (s := some (pickS 3 (pickS 9 S4).2).2) (ρ' := (ro mark a2 a3 ts a5 a6 (.frz (.int (pickS 3 S).1)) (.frz (.tuple [oS a, oI b]))).map SS.f) rfl, Option.map]
      rfl
    · simp [runs, ro, es]

/-- the things so far -/
structure Dr (m0 : Int) (ts : List Th) (mark l : Int) : Prop where
  ok : OkR m0 0 ts mark l
  th : ∀ x ∈ ts, okTh x
  lo : m0 ≤ mark
  hi : mark ≤ m0 + 9 * ts.length
theorem Dr.snoc {m0 mark l : Int} {ts : List Th} {x : Th} (h : Dr m0 ts mark l) (h1 : tbad mark l x = false) (h2 : okTh x) (h3 : mark ≤ nMark mark x) (h4 : nMark mark x ≤ mark + 9) : Dr m0 (ts ++ [x]) (nMark mark x) (nLast l x) where
  ok := h.ok.snoc h1
  th := fun y hy => (List.mem_append.mp hy).elim (h.th y) fun e => by rw [List.mem_singleton.mp e]; exact h2
  lo := by have := h.lo; omega
  hi := by have := h.hi; rw [List.length_append, List.length_singleton]; omega
theorem laps_run {m0 l : Int} {a2 a3 a5 : SS} (hm0 : m0.natAbs < 1000) : ∀ (n : Nat) (xs : List D) {mark : Int} {a6 a7 a8 : SS} {ts : List Th} {S : Src}, xs.length = n → Dr m0 ts mark l → ts.length + n < 90 →
    ∃ ts' mark' b6 b7 b8 S', forRun (runs F_12 M_w_draw_things_1) (.nm 6) xs (ro mark a2 a3 ts a5 a6 a7 a8) (some S) = some (.nx (ro mark' a2 a3 ts' a5 b6 b7 b8) (some S')) ∧ Dr m0 ts' mark' l ∧ ts'.length = ts.length + n
  | 0, xs, mark, a6, a7, a8, ts, S, h, d, hl => by
    cases xs with
    | nil => exact ⟨ts, mark, a6, a7, a8, S, rfl, d, rfl⟩
    | cons => cases h
  | n + 1, xs, mark, a6, a7, a8, ts, S, h, d, hl => by
    cases xs with
    | nil => cases h
    | cons y xs =>
      have dl := d.lo
      have dh := d.hi
      obtain ⟨x, b7, b8, S1, h1, h2, h3, h4, h5, h6⟩ := item_run (mark := mark) (l := l) (a2 := a2) (a3 := a3) (a5 := a5) (a6 := .frz y) (a7 := a7) (a8 := a8) (ts := ts) (S := S) (by omega) (by omega)
      have d2 := d.snoc h2 h4 h5 h6
      rw [h3] at d2
      obtain ⟨ts', mark', c6, c7, c8, S2, g1, g2, g3⟩ := laps_run hm0 n xs (a6 := .frz y) (a7 := b7) (a8 := b8) (S := S1) (by simpa using h) d2 (by rw [List.length_append, List.length_singleton]; omega)
      refine ⟨ts', mark', c6, c7, c8, S2, ?_, g2, by rw [g3, List.length_append, List.length_singleton]; omega⟩
      have eb : bindS (.nm 6) y (ro mark a2 a3 ts a5 a6 a7 a8) = some (ro mark a2 a3 ts a5 (.frz y) a7 a8) := rfl
      rw [forRun, eb]
      simp only [Option.bind, h1]
      exact g1
/-- one number's stretch -/
theorem stretch_run {m0 mark l : Int} {a2 a6 a7 a8 : SS} {ts : List Th} {S : Src} (nn : Option Int) (hm0 : m0.natAbs < 1000) (d : Dr m0 ts mark l) (hl : ts.length < 80) (hn : ∀ n, nn = some n → l < n ∧ n.natAbs < 1000) :
    ∃ ts' mark' b6 b7 b8 S', runs F_12 M_w_draw_things_2 (ro mark a2 (.frz (.int 3)) ts (.frz (oI nn)) a6 a7 a8) (some S) = some (.nx (ro mark' a2 (.frz (.int 3)) ts' (.frz (oI nn)) b6 b7 b8) (some S')) ∧ Dr m0 ts' mark' (nn.getD l) ∧ ts'.length ≤ ts.length + 4 := by
  have hr := pickS_range (m := 4) (S := S) (by decide)
  have hp : ∀ (ρ : LS), ρ[0]? = some .src → ρ[3]? = some (.d (.int 3)) → ev F_12 (.call 9 (.src 0 (.cons (.op .add (.nm 3) (.k (.int 1))) .nil))) ρ (some S) = some (.int (pickS 4 S).1, some (pickS 4 S).2) := fun ρ h0 h3 =>
    ev_call (xs := [.src, .d (.int 4)]) (eva_src h0 (eva_cons (by rw [ev, ev_nm h3]; simp only [Option.bind, ev, dOp, Option.map]; rfl) eva_nil)) P_12_9 rfl (pick_sem (by decide))
  obtain ⟨ts1, mark1, b6, b7, b8, S1, h1, h2, h3⟩ := laps_run (a2 := a2) (a3 := .frz (.int 3)) (a5 := .frz (oI nn)) hm0 (pickS 4 S).1.toNat (rangeD 0 (pickS 4 S).1.toNat) (mark := mark) (a6 := a6) (a7 := a7) (a8 := a8) (ts := ts) (S := (pickS 4 S).2) (by simp [rangeD]) d (by omega)
  have e0 : run F_12 (.for_ (.nm 6) (.range1 (.call 9 (.src 0 (.cons (.op .add (.nm 3) (.k (.int 1))) .nil)))) M_w_draw_things_1) (ro mark a2 (.frz (.int 3)) ts (.frz (oI nn)) a6 a7 a8) (some S) = some (.nx (ro mark1 a2 (.frz (.int 3)) ts1 (.frz (oI nn)) b6 b7 b8) (some S1)) := by
    refine run_for (xs := rangeD 0 (pickS 4 S).1.toNat) (s1 := some (pickS 4 S).2) ?_ h1
    rw [evi, hp _ rfl rfl]
    simp only [Option.bind]
    rw [if_pos (by omega)]
  have eN : ∀ b, isNone (oI nn) = b → ev F_12 (.notN (.nm 5)) ((ro mark1 a2 (.frz (.int 3)) ts1 (.frz (oI nn)) b6 b7 b8).map SS.r) (some S1) = some (.bool (!b), some S1) := fun b hb => by
    rw [ev, ev_nm (x := oI nn) rfl]
    simp only [Option.bind, hb]
  cases nn with
  | none =>
    refine ⟨ts1, mark1, b6, b7, b8, S1, ?_, h2, by omega⟩
    exact runs_nx _ _ e0 (runs_nx _ _ (run_skip (eN true rfl)) rfl)
  | some n =>
    obtain ⟨hn1, hn2⟩ := hn n rfl
    have d2 := h2.snoc (x := .bar n) (by simp [tbad]; omega) (by simp only [okTh]; omega) (Int.le_refl _) (by simp only [nMark]; omega)
    refine ⟨ts1 ++ [.bar n], mark1, b6, b7, b8, S1, ?_, d2, by rw [List.length_append, List.length_singleton]; omega⟩
    refine runs_nx _ _ e0 (runs_nx (ro mark1 a2 (.frz (.int 3)) (ts1 ++ [.bar n]) (.frz (.int n)) b6 b7 b8) (some S1) (run_t (x := .bool true) (eN false rfl) rfl (runs_nx _ (some S1) (run_app (xs := tds ts1) (d := td (.bar n)) rfl ?_ (tz (by omega))) ?_)) rfl)
    · show ev F_12 _ ((ro mark1 a2 (.frz (.int 3)) ts1 (.frz (.int n)) b6 b7 b8).map SS.f) _ = _
      simp [ev, evs, ro, SS.f, Option.bind, Option.map, sz2, td, tword, ttold]
    · have : tds (ts1 ++ [Th.bar n]) = tds ts1 ++ [td (.bar n)] := by simp [tds]
      simp [runs, ro, this, oI]
theorem stretches {m0 : Int} {a2 : SS} (hm0 : m0.natAbs < 1000) : ∀ (nns : List (Option Int)) {mark l : Int} {a5 a6 a7 a8 : SS} {ts : List Th} {S : Src}, Dr m0 ts mark l → ts.length + 4 * nns.length < 80 → (∀ n ∈ nns, ∀ k, n = some k → k.natAbs < 1000) → (List.Pairwise (· < ·) (l :: nns.filterMap id)) →
    ∃ ts' mark' l' b5 b6 b7 b8 S', forRun (runs F_12 M_w_draw_things_2) (.nm 5) (nns.map oI) (ro mark a2 (.frz (.int 3)) ts a5 a6 a7 a8) (some S) = some (.nx (ro mark' a2 (.frz (.int 3)) ts' b5 b6 b7 b8) (some S')) ∧ Dr m0 ts' mark' l' ∧ ts'.length ≤ ts.length + 4 * nns.length
  | [], mark, l, a5, a6, a7, a8, ts, S, d, hl, hk, hp => ⟨ts, mark, l, a5, a6, a7, a8, S, rfl, d, by simp⟩
  | nn :: nns, mark, l, a5, a6, a7, a8, ts, S, d, hl, hk, hp => by
    rw [List.length_cons] at hl
    obtain ⟨ts1, mark1, b6, b7, b8, S1, h1, h2, h3⟩ := stretch_run (a2 := a2) (a6 := a6) (a7 := a7) (a8 := a8) (S := S) nn hm0 d (by omega) (fun n e => by
      subst e
      refine ⟨?_, hk (some n) List.mem_cons_self n rfl⟩
      have := (List.pairwise_cons.mp hp).1 n (by simp)
      exact this)
    obtain ⟨ts', mark', l', c5, c6, c7, c8, S2, g1, g2, g3⟩ := stretches hm0 nns (a5 := .frz (oI nn)) (a6 := b6) (a7 := b7) (a8 := b8) (S := S1) h2 (by omega) (fun n hn => hk n (List.mem_cons_of_mem _ hn)) (by
      cases nn with
      | none => simpa using hp
      | some n =>
        simp only [List.filterMap_cons_some (show id (some n) = some n from rfl)] at hp
        exact (List.pairwise_cons.mp hp).2)
    refine ⟨ts', mark', l', c5, c6, c7, c8, S2, ?_, g2, by rw [List.length_cons]; omega⟩
    have eb : bindS (.nm 5) (oI nn) (ro mark a2 (.frz (.int 3)) ts a5 a6 a7 a8) = some (ro mark a2 (.frz (.int 3)) ts (.frz (oI nn)) a6 a7 a8) := rfl
    rw [List.map_cons, forRun, eb]
    simp only [Option.bind, h1]
    exact g1
theorem draw_sem {m0 : Int} (hm0 : m0.natAbs < 1000) (ns : List Int) (hns : List.Pairwise (· < ·) (0 :: ns)) (hb : ∀ n ∈ ns, n.natAbs < 1000) (hl : ns.length ≤ 4) (S : Src) :
    ∃ ts S' mark l, E_w_draw_things.sem [.src, .d (.int m0), .d (.list (ns.map .int)), .d (.int 3)] (some S) = some (.tuple (tds ts), some S') ∧ OkTs ts ∧ OkR m0 0 ts mark l ∧ ts.length ≤ 20 := by
  obtain ⟨ts, mark, l, b5, b6, b7, b8, S', h1, h2, h3⟩ := stretches (a2 := .frz (.list (ns.map .int))) hm0 (ns.map some ++ [none]) (mark := m0) (l := 0) (a5 := .un) (a6 := .un) (a7 := .un) (a8 := .un) (ts := []) (S := S) ⟨⟨rfl, rfl⟩, fun x hx => (nomatch hx), Int.le_refl _, by simp⟩ (by simp; omega) (fun n hn k e => by
    subst e
    rcases List.mem_append.mp hn with z | z
    · obtain ⟨j, hj, e⟩ := List.mem_map.mp z
      cases e
      exact hb _ hj
    · simp at z) (by
    have : (ns.map some ++ [none]).filterMap id = ns := by simp [List.filterMap_append, List.filterMap_map, Function.comp_def]
    rw [this]
    exact hns)
  have hlen : ts.length ≤ 20 := by
    have := h3
    simp only [List.length_append, List.length_map, List.length_nil, List.length_singleton] at this
    omega
  refine ⟨ts, S', mark, l, sem_rt [.src, .frz (.int m0), .frz (.list (ns.map .int)), .frz (.int 3), .un, .un, .un, .un, .un] rfl ?_, ⟨h2.th, by omega⟩, h2.ok, hlen⟩
  refine runs_nx (ro m0 (.frz (.list (ns.map .int))) (.frz (.int 3)) [] .un .un .un .un) (some S) (run_set (d := .list []) (by simp [ev, evs, sz0]) rfl (by simp)) ?_
  refine runs_nx _ (some S') (run_for (xs := (ns.map some ++ [none]).map oI) (s1 := some S) ?_ h1) (runs_rt (run_ret (ev_b1 (d := .list (tds ts)) (ev_nm rfl) rfl)))
  have hz : ns.length + 1 ≤ sizeLine := by
    have : sizeLine = 16777216 := sizeLine_eq
    omega
  simp [evi, ev, evs, ro, SS.f, dOp, seqOf, Option.bind, Option.map, sz1, hz, oI, Function.comp_def]
end Os
end
section
set_option linter.all false
set_option maxRecDepth 100000
set_option maxHeartbeats 4000000
namespace Os
open PySem PySem.Spec PyProof.Rows L2
theorem perm_lift {α β : Type} (f : α → β) {L M : List β} (h : M.Perm L) : ∀ b : List α, M = b.map f → ∃ b', b.Perm b' ∧ L = b'.map f := by
  induction h with
  | nil =>
    intro b e
    exact ⟨b, .refl _, e⟩
  | cons x h ih =>
    intro b e
    cases b with
    | nil => cases e
    | cons y b =>
      rw [List.map_cons] at e
      injection e with e1 e2
      obtain ⟨b', h1, h2⟩ := ih b e2
      exact ⟨y :: b', .cons y h1, by rw [List.map_cons, e1, h2]⟩
  | swap x y l =>
    intro b e
    match b, e with
    | [], e => cases e
    | [_], e => cases e
    | p :: q :: b, e =>
      rw [List.map_cons, List.map_cons] at e
      injection e with e1 e2
      injection e2 with e3 e4
      exact ⟨q :: p :: b, .swap q p b, by rw [List.map_cons, List.map_cons, e1, e3, e4]⟩
  | trans h1 h2 ih1 ih2 =>
    intro b e
    obtain ⟨b1, p1, e1⟩ := ih1 b e
    obtain ⟨b2, p2, e2⟩ := ih2 b1 e1
    exact ⟨b2, p1.trans p2, e2⟩
theorem order_tds {ts : List Th} {x : D} {S : Src} (hx : seqOf x = some (tds ts)) (hl : ts.length ≤ 100) : ∃ ts' S', ts'.Perm ts ∧ orderF.sem [.src, .d x] (some S) = some (.list (tds ts'), some S') := by
  have hp := orderS_perm (tds ts).length (tds ts) S rfl
  obtain ⟨ts', h1, h2⟩ := perm_lift td hp.symm ts rfl
  refine ⟨ts', (orderS (tds ts).length (tds ts) S).2, h1.symm, ?_⟩
  simp only [orderF, hx, Option.bind]
  have hz : (tds ts).length ≤ sizeLine := by
    have : sizeLine = 16777216 := sizeLine_eq
    simp only [tds, List.length_map]
    omega
  rw [if_pos hz, h2]
  rfl
/-! where -/
def ixs (n : Int) : Nat → List Th → List Nat
  | _, [] => []
  | k, x :: ts => if isBar n x = true then k :: ixs n (k + 1) ts else ixs n (k + 1) ts
def qI (n : Int) : D → Bool
  | .tuple [_, x] => PyData.eqv x (td (.bar n))
  | _ => false
def gI : D → D
  | .tuple [i, _] => i
  | _ => .none
theorem ixs_eq (n : Int) : ∀ (ts : List Th) (k : Nat), ((en k (tds ts)).filter (qI n)).map gI = (ixs n k ts).map fun i => .int (i : Nat)
  | [], k => rfl
  | x :: ts, k => by
    have ih := ixs_eq n ts (k + 1)
    have e : en k (tds (x :: ts)) = .tuple [.int (k : Nat), td x] :: en (k + 1) (tds ts) := rfl
    rw [e, List.filter_cons, ixs]
    have q : qI n (.tuple [.int (k : Nat), td x]) = isBar n x := td_eqv x n
    rw [q]
    cases isBar n x with
    | true =>
      rw [if_pos rfl, if_pos rfl, List.map_cons, List.map_cons, ih]
      rfl
    | false =>
      rw [if_neg (by decide), if_neg (by decide), ih]
theorem ixs_len (n : Int) : ∀ (ts : List Th) (k : Nat), (ixs n k ts).length ≤ ts.length
  | [], k => Nat.le_refl _
  | x :: ts, k => by
    have ih := ixs_len n ts (k + 1)
    rw [ixs]
    split
    · rw [List.length_cons, List.length_cons]
      omega
    · rw [List.length_cons]
      omega
theorem ixs_head (n : Int) : ∀ (ts : List Th) (k : Nat), ((ixs n k ts).take 1 ++ [k + ts.length]).head? = some (k + posN n ts)
  | [], k => rfl
  | x :: ts, k => by
    have ih := ixs_head n ts (k + 1)
    rw [ixs]
    unfold posN at ih ⊢
    rw [List.findIdx_cons]
    cases isBar n x with
    | true => simp
    | false =>
      simp only [Bool.false_eq_true, if_false, cond_false]
      rw [List.length_cons, show k + (ts.length + 1) = k + 1 + ts.length by omega, ih]
      congr 1
      omega
theorem at_head (n : Int) (ts : List Th) : atI (cutD ((ixs n 0 ts).map fun i => PyData.int (i : Nat)) none (some 1) ++ [.int ts.length]) 0 = some (.int (posN n ts : Nat)) := by
  have h := ixs_head n ts 0
  have e : cutD ((ixs n 0 ts).map fun i => PyData.int (i : Nat)) none (some 1) ++ [.int ts.length] = ((ixs n 0 ts).take 1 ++ [0 + ts.length]).map fun i => PyData.int (i : Nat) := by
    rw [List.map_append, Nat.zero_add]
    congr 1
    cases hi : ixs n 0 ts with
    | nil => rfl
    | cons a l => simp [cutD, HT.sIx]
  rw [e]
  generalize (ixs n 0 ts).take 1 ++ [0 + ts.length] = L at h
  cases L with
  | nil => cases h
  | cons a l =>
    simp only [List.head?_cons, Option.some.injEq] at h
    subst h
    simp [atI, ixN]
def rt (m0 : Int) (ts : List Th) (a3 a4 a5 a6 a7 a8 a9 a10 a11 : SS) : LSS := [.src, .frz (.int m0), .frz (.tuple (tds ts)), a3, a4, a5, a6, a7, a8, a9, a10, a11]
theorem two_tm {a b : List Th} (ha : OkTs a) (hb : OkTs b) : Tm 5 70000 (.list [.tuple (tds a), .tuple (tds b)]) := Tm.list (k := 4) (m := 30000) (fun z hz => by
  simp only [List.mem_cons, List.not_mem_nil, or_false] at hz
  rcases hz with rfl | rfl
  · exact tds_tm ha
  · exact tds_tm hb) (by show 2 * 30001 ≤ 70000; decide)
theorem at_run {m0 n : Int} {ts : List Th} {a3 a4 a6 a7 a8 a9 a10 a11 : SS} {s : S1} (h : OkTs ts) (hn : n.natAbs < 10 ^ 10) : ∃ b6, runs F_16 M_w_things_right_2 (rt m0 ts a3 a4 (.frz (.int n)) a6 a7 a8 a9 a10 a11) s = some (.nx (rt m0 ts a3 a4 (.frz (.int n)) b6 a7 a8 a9 a10 a11) s) := by
  have hcomp : ev F_16 (.comp (.nm 7) (.two (.nm 7) (.nm 4)) (.enum (.nm 2)) (.cons (.cmp .eq (.nm 4) (.tup (.cons (.k (.str "barrier")) (.cons (.nm 5) .nil)))) .nil) [7, 4]) ((rt m0 ts a3 a4 (.frz (.int n)) a6 a7 a8 a9 a10 a11).map SS.f) s = some (.list ((ixs n 0 ts).map fun i => .int (i : Nat)), s) := by
    refine ev_comp (xs := en 0 (tds ts)) (s1 := s) (ev_enum (ev_nm rfl) rfl) ?_ ?_
    · rw [compRun_pure (qI n) gI fun d hd => ?_, ixs_eq]
      have : ∃ (i : Nat) (x : Th), x ∈ ts ∧ d = .tuple [.int (i : Nat), td x] := by
        obtain ⟨i, hi⟩ := List.mem_iff_getElem?.mp hd
        rw [en_get] at hi
        obtain ⟨y, hy, rfl⟩ := map_some hi
        obtain ⟨x, hx, rfl⟩ := List.mem_map.mp (List.mem_of_getElem? hy)
        exact ⟨0 + i, x, hx, rfl⟩
      obtain ⟨i, x, hx, rfl⟩ := this
      refine ⟨[.src, .d (.int m0), .d (.tuple (tds ts)), a3.f, .d (td x), .d (.int n), a6.f, .d (.int (i : Nat)), a8.f, a9.f, a10.f, a11.f], by simp [bindT, wipeS, rt, SS.f, Option.bind], ?_, fun _ => ?_⟩
      · have e : dEq (td x) (td (.bar n)) = some (isBar n x) := by
          simp only [td, dEq]
          rw [if_pos ⟨(td_tm (h.1 x hx)).shaped (by decide), (td_tm (x := .bar n) hn).shaped (by decide)⟩]
          exact congrArg some (td_eqv x n)
        have q : qI n (.tuple [.int (i : Nat), td x]) = isBar n x := td_eqv x n
        have ec : ev F_16 (.cmp .eq (.nm 4) (.tup (.cons (.k (.str "barrier")) (.cons (.nm 5) .nil)))) [.src, .d (.int m0), .d (.tuple (tds ts)), a3.f, .d (td x), .d (.int n), a6.f, .d (.int (i : Nat)), a8.f, a9.f, a10.f, a11.f] s = some (.bool (isBar n x), s) :=
          ev_cmp (ev_nm rfl) (y := td (.bar n)) (by simp [ev, evs, Option.bind, Option.map, sz2, td, tword, ttold]) e
        rw [evt, ec, q]
        simp only [Option.bind, tru_b, evt]
        cases isBar n x <;> rfl
      · simp [ev, gI]
    · have := ixs_len n ts 0
      have h2 := h.2
      have : sizeLine = 16777216 := sizeLine_eq
      rw [List.length_map]
      omega
  have hat : ev F_16 (.op .add (.slc (.comp (.nm 7) (.two (.nm 7) (.nm 4)) (.enum (.nm 2)) (.cons (.cmp .eq (.nm 4) (.tup (.cons (.k (.str "barrier")) (.cons (.nm 5) .nil)))) .nil) [7, 4]) .no (.yes (.k (.int 1)))) (.lst (.cons (.b1 .len (.nm 2)) .nil))) ((rt m0 ts a3 a4 (.frz (.int n)) a6 a7 a8 a9 a10 a11).map SS.f) s = some (.list (cutD ((ixs n 0 ts).map fun i => .int (i : Nat)) none (some 1) ++ [.int ts.length]), s) := by
    have el : ev F_16 (.b1 .len (.nm 2)) ((rt m0 ts a3 a4 (.frz (.int n)) a6 a7 a8 a9 a10 a11).map SS.f) s = some (.int ts.length, s) := by
      refine ev_b1 (ev_nm rfl) ?_
      rw [lenT]
      simp [tds]
    have hz : (cutD ((ixs n 0 ts).map fun i => PyData.int (i : Nat)) none (some 1)).length + 1 ≤ sizeLine := by
      have := ixs_len n ts 0
      have h2 := h.2
      have : sizeLine = 16777216 := sizeLine_eq
      simp only [cutD, List.length_take, List.length_drop, List.length_map]
      omega
    rw [ev, ev, hcomp]
    simp only [Option.bind, evo, ev, bnd, Option.map, dSlc]
    rw [evs, el]
    simp only [Option.bind, evs, Option.map]
    rw [if_pos (show [PyData.int ts.length].length ≤ sizeLine from by show 1 ≤ sizeLine; decide)]
    simp only [dOp, List.length_singleton]
    rw [if_pos hz]
  refine ⟨.frz (.list (cutD ((ixs n 0 ts).map fun i => .int (i : Nat)) none (some 1) ++ [.int ts.length])), ?_⟩
  refine runs_nx (rt m0 ts a3 a4 (.frz (.int n)) (.frz (.list (cutD ((ixs n 0 ts).map fun i => .int (i : Nat)) none (some 1) ++ [.int ts.length]))) a7 a8 a9 a10 a11) s (run_set hat rfl (by simp [rt])) ?_
  have t2 := (two_tm (ok_cut h none (some (posN n ts : Nat))) (ok_cut h (some ((posN n ts : Nat) + 1)) none)).repr (by decide) (by decide)
  have e6 : ∀ (ρ : LS), ρ[6]? = some (.d (.list (cutD ((ixs n 0 ts).map fun i => .int (i : Nat)) none (some 1) ++ [.int ts.length]))) → ev F_16 (.idx (.nm 6) (.k (.int 0))) ρ s = some (.int (posN n ts : Nat), s) := fun ρ h6 => by
    rw [ev, ev_nm h6]
    simp only [Option.bind, ev, dIdx, at_head, Option.map]
  refine runs_nx _ s (run_skip (ev_ne (ev_b1 (d := .list [.tuple (tds (cutTh ts none (some (posN n ts : Nat)))), .tuple (tds (cutTh ts (some ((posN n ts : Nat) + 1)) none))]) (ev_lst2 (ev_call (eva_cons (ev_nm rfl) (eva_cons (ev_nm rfl) eva_nil)) P_16_5 rfl (before_sem h hn)) (ev_call (eva_cons (ev_nm rfl) (eva_cons (ev_nm rfl) eva_nil)) P_16_6 rfl (behind_sem h hn))) t2) (ev_b1 (ev_lst2 (s1 := s) ?_ ?_) t2))) rfl
  · rw [ev, ev_nm (x := .tuple (tds ts)) rfl]
    simp only [Option.bind, evo, e6 _ (show (List.map SS.r (rt m0 ts a3 a4 (.frz (.int n)) (.frz (.list (cutD ((ixs n 0 ts).map fun i => .int (i : Nat)) none (some 1) ++ [.int ts.length]))) a7 a8 a9 a10 a11))[6]? = _ from rfl), bnd, Option.map, dSlc, cut_tds]
  · have e7 : ev F_16 (.op .add (.idx (.nm 6) (.k (.int 0))) (.k (.int 1))) ((rt m0 ts a3 a4 (.frz (.int n)) (.frz (.list (cutD ((ixs n 0 ts).map fun i => .int (i : Nat)) none (some 1) ++ [.int ts.length]))) a7 a8 a9 a10 a11).map SS.r) s = some (.int ((posN n ts : Nat) + 1), s) := by
      rw [ev, e6 _ rfl]
      simp only [Option.bind, ev, dOp, Option.map]
    rw [ev, ev_nm (x := .tuple (tds ts)) rfl]
    simp only [Option.bind, evo, e7, bnd, Option.map, dSlc, cut_tds]
end Os
end
section
set_option linter.all false
set_option maxRecDepth 100000
set_option maxHeartbeats 4000000
namespace Os
open PySem PySem.Spec PyProof.Rows L2
theorem tds_app (a b : List Th) : tds a ++ tds b = tds (a ++ b) := by simp [tds]
theorem bend_run {m0 : Int} {ts : List Th} {lap : Nat} {a3 a4 a5 a6 a7 a9 a10 a11 : SS} {S : Src} (h : OkTs ts) (hl : ts.length ≤ 20) (hm : m0.natAbs < 1000) : ∃ b7 b9 b10 b11 S', runs F_16 M_w_things_right_1 (rt m0 ts a3 a4 a5 a6 a7 (.frz (.int lap)) a9 a10 a11) (some S) = some (.nx (rt m0 ts a3 a4 a5 a6 b7 (.frz (.int lap)) b9 b10 b11) (some S')) := by
  have hlen : (tds ts).length = ts.length := by simp [tds]
  have hp : ∀ (ρ : LS) (S : Src), ρ[0]? = some .src → ρ[2]? = some (.d (.tuple (tds ts))) → ev F_16 (.call 9 (.src 0 (.cons (.op .add (.b1 .len (.nm 2)) (.k (.int 1))) .nil))) ρ (some S) = some (.int (pickS ((ts.length : Int) + 1) S).1, some (pickS ((ts.length : Int) + 1) S).2) := fun ρ S h0 h2 => by
    have el : ev F_16 (.op .add (.b1 .len (.nm 2)) (.k (.int 1))) ρ (some S) = some (.int ((ts.length : Int) + 1), some S) := by
      rw [ev, ev_b1 (ev_nm h2) (lenT _)]
      simp only [Option.bind, ev, dOp, Option.map, hlen]
    exact ev_call (eva_src h0 (eva_cons el eva_nil)) P_16_9 rfl (pick_sem (by omega))
  generalize hS1 : (pickS ((ts.length : Int) + 1) S).2 = S1 at hp
  generalize hS2 : (pickS ((ts.length : Int) + 1) S1).2 = S2
  generalize hk : (pickS ((ts.length : Int) + 1) S).1 = k
  generalize hj : (pickS ((ts.length : Int) + 1) S1).1 = j
  generalize hb : cutTh ts none (some k) ++ cutTh ts (some j) (some (j + 1)) ++ cutTh ts (some k) none = bt
  have okb : OkTs bt := by
    subst hb
    refine ⟨fun x hx => ?_, ?_⟩
    · rcases List.mem_append.mp hx with hx | hx
      · rcases List.mem_append.mp hx with hx | hx
        · exact (ok_cut h none (some k)).1 x hx
        · exact (ok_cut h (some j) (some (j + 1))).1 x hx
      · exact (ok_cut h (some k) none).1 x hx
    · have c : ∀ lo hi, (cutTh ts lo hi).length ≤ ts.length := fun lo hi => by simp only [cutTh, List.length_take, List.length_drop]; omega
      have := c none (some k)
      have := c (some j) (some (j + 1))
      have := c (some k) none
      simp only [List.length_append]
      omega
  -- the bent list, its order, the lower mark
  have fin : ∀ (x : D) (bt' : List Th) (S3 : Src) (b7 b9 : SS), seqOf x = some (tds bt') → OkTs bt' → ∃ b11 S', runs F_16 (.cons (.set 11 .f (.op .add (.nm 1) (.idx (.lst (.cons (.k (.int 0)) (.cons (.k (.int 0)) (.cons (.k (.int 2)) (.cons (.k (.int 20)) .nil))))) (.call 9 (.src 0 (.cons (.k (.int 4)) .nil)))))) 
   (.cons (.ite (.cmp .ne (.b1 .repr (.call 8 (.cons (.b1 .tuple (.nm 10)) (.cons (.nm 11) .nil)))) (.b1 .repr (.call 15 (.cons (.b1 .tuple (.nm 10)) (.cons (.nm 11) .nil))))) 
   (.cons (.ret (.k (.bool false))) .nil) .nil) .nil)) (rt m0 ts a3 a4 a5 a6 b7 (.frz (.int lap)) b9 (.frz x) a11) (some S3) = some (.nx (rt m0 ts a3 a4 a5 a6 b7 (.frz (.int lap)) b9 (.frz x) b11) (some S')) := by
    intro x bt' S3 b7 b9 hx ok'
    obtain ⟨y, hy, e⟩ := pick_idx (Φ := F_16) (f := 9) (i := 0) (m := 4) (S := S3) (ρ := (rt m0 ts a3 a4 a5 a6 b7 (.frz (.int lap)) b9 (.frz x) a11).map SS.f) (e := .lst (.cons (.k (.int 0)) (.cons (.k (.int 0)) (.cons (.k (.int 2)) (.cons (.k (.int 20)) .nil))))) (xs := [.int 0, .int 0, .int 2, .int 20]) (by
      simp [ev, evs, Option.bind, Option.map, sz4]) P_16_9 rfl (by decide) (by decide) rfl
    have hy' : ∃ z : Int, y = .int z := by
      simp only [List.mem_cons, List.not_mem_nil, or_false] at hy
      rcases hy with rfl | rfl | rfl | rfl <;> exact ⟨_, rfl⟩
    obtain ⟨z, rfl⟩ := hy'
    refine ⟨.frz (.int (m0 + z)), (pickS 4 S3).2, ?_⟩
    refine runs_nx (rt m0 ts a3 a4 a5 a6 b7 (.frz (.int lap)) b9 (.frz x) (.frz (.int (m0 + z)))) (some (pickS 4 S3).2) (run_set (d := .int (m0 + z)) ?_ rfl (by simp [rt])) ?_
    · show ev F_16 _ ((rt m0 ts a3 a4 a5 a6 b7 (.frz (.int lap)) b9 (.frz x) a11).map SS.f) _ = _
      rw [ev, ev_nm (x := .int m0) rfl]
      simp only [Option.bind, e, dOp, Option.map]
    have et : dB1 .tuple x = some (.tuple (tds bt')) := by
      cases x <;> simp [seqOf] at hx
      · subst hx; rfl
      · subst hx; rfl
    have eR := (jud_tm bt' (m0 + z) 0 0 (by have := ok'.2; omega)).repr (by decide) (by decide)
    exact runs_nx _ _ (run_skip (ev_ne (ev_b1 (ev_call (eva_cons (ev_b1 (ev_nm rfl) et) (eva_cons (ev_nm rfl) eva_nil)) P_16_8 rfl (judge_sem rfl)) eR) (ev_b1 (ev_call (eva_cons (ev_b1 (ev_nm rfl) et) (eva_cons (ev_nm rfl) eva_nil)) P_16_15 rfl (fault_sem rfl)) eR))) rfl
  have e10 : ev F_16 (.op .add (.op .add (.slc (.nm 2) .no (.yes (.nm 7))) (.slc (.nm 2) (.yes (.nm 9)) (.yes (.op .add (.nm 9) (.k (.int 1)))))) (.slc (.nm 2) (.yes (.nm 7)) .no)) ((rt m0 ts a3 a4 a5 a6 (.frz (.int k)) (.frz (.int lap)) (.frz (.int j)) a10 a11).map SS.f) (some S2) = some (.tuple (tds bt), some S2) := by
    have c : ∀ lo hi, (cutTh ts lo hi).length ≤ ts.length := fun lo hi => by simp only [cutTh, List.length_take, List.length_drop]; omega
    have z0 : sizeLine = 16777216 := sizeLine_eq
    have z1 : (tds (cutTh ts none (some k))).length + (tds (cutTh ts (some j) (some (j + 1)))).length ≤ sizeLine := by
      have := c none (some k)
      have := c (some j) (some (j + 1))
      simp only [tds, List.length_map]
      omega
    have z2 : (tds (cutTh ts none (some k) ++ cutTh ts (some j) (some (j + 1)))).length + (tds (cutTh ts (some k) none)).length ≤ sizeLine := by
      have := c none (some k)
      have := c (some j) (some (j + 1))
      have := c (some k) none
      simp only [tds, List.length_map, List.length_append]
      omega
    have i7 : ((rt m0 ts a3 a4 a5 a6 (.frz (.int k)) (.frz (.int lap)) (.frz (.int j)) a10 a11).map SS.f)[7]? = some (.d (.int k)) := rfl
    have i9 : ((rt m0 ts a3 a4 a5 a6 (.frz (.int k)) (.frz (.int lap)) (.frz (.int j)) a10 a11).map SS.f)[9]? = some (.d (.int j)) := rfl
    have i2 : ((rt m0 ts a3 a4 a5 a6 (.frz (.int k)) (.frz (.int lap)) (.frz (.int j)) a10 a11).map SS.f)[2]? = some (.d (.tuple (tds ts))) := rfl
    simp only [ev, evo, i7, i9, i2, Option.bind, Option.map, bnd, dSlc, cut_tds, dOp]
    rw [if_pos z1]
    simp only [tds_app]
    rw [if_pos z2, hb]
  by_cases q : lap = 5
  · obtain ⟨bt', S3, hp', eo⟩ := order_tds (x := .tuple (tds bt)) (S := S2) rfl okb.2
    have ok' : OkTs bt' := ⟨fun x hx => okb.1 x (hp'.mem_iff.mp hx), by rw [hp'.length_eq]; exact okb.2⟩
    obtain ⟨b11, S', hf⟩ := fin (.list (tds bt')) bt' S3 (.frz (.int k)) (.frz (.int j)) rfl ok'
    refine ⟨.frz (.int k), .frz (.int j), .frz (.list (tds bt')), b11, S', ?_⟩
    refine runs_nx (rt m0 ts a3 a4 a5 a6 (.frz (.int k)) (.frz (.int lap)) (.frz (.int j)) a10 a11) (some S2) (run_par2 (d := .int k) (x := .int j) (s1 := some S1) (by rw [hp _ _ rfl rfl, hk, hS1]) rfl (by rw [hp _ _ rfl rfl, hj, hS2]) rfl (by simp [rt])) ?_
    refine runs_nx (rt m0 ts a3 a4 a5 a6 (.frz (.int k)) (.frz (.int lap)) (.frz (.int j)) (.frz (.tuple (tds bt))) a11) (some S2) (run_set e10 rfl (by simp [rt])) ?_
    refine runs_nx (rt m0 ts a3 a4 a5 a6 (.frz (.int k)) (.frz (.int lap)) (.frz (.int j)) (.frz (.list (tds bt'))) a11) (some S3) (run_set (d := .list (tds bt')) (ev_ite_t (ev_cmp (ev_nm rfl) (by rw [ev]) (by rw [q]; rfl)) (ev_call (eva_src rfl (eva_cons (ev_nm rfl) eva_nil)) P_16_10 rfl eo)) rfl (by simp [rt])) ?_
    exact hf
  · obtain ⟨b11, S', hf⟩ := fin (.tuple (tds bt)) bt S2 (.frz (.int k)) (.frz (.int j)) rfl okb
    refine ⟨.frz (.int k), .frz (.int j), .frz (.tuple (tds bt)), b11, S', ?_⟩
    refine runs_nx (rt m0 ts a3 a4 a5 a6 (.frz (.int k)) (.frz (.int lap)) (.frz (.int j)) a10 a11) (some S2) (run_par2 (d := .int k) (x := .int j) (s1 := some S1) (by rw [hp _ _ rfl rfl, hk, hS1]) rfl (by rw [hp _ _ rfl rfl, hj, hS2]) rfl (by simp [rt])) ?_
    refine runs_nx (rt m0 ts a3 a4 a5 a6 (.frz (.int k)) (.frz (.int lap)) (.frz (.int j)) (.frz (.tuple (tds bt))) a11) (some S2) (run_set e10 rfl (by simp [rt])) ?_
    have hq : dCmp .eq (.int (lap : Int)) (.int 5) = some false := by
      simp only [dCmp, dEqI]
      rw [decide_eq_false (by omega)]
    refine runs_nx (rt m0 ts a3 a4 a5 a6 (.frz (.int k)) (.frz (.int lap)) (.frz (.int j)) (.frz (.tuple (tds bt))) a11) (some S2) (run_set (d := .tuple (tds bt)) (ev_ite_f (ev_cmp (ev_nm rfl) (by rw [ev]) hq) (ev_nm rfl)) rfl (by simp [rt])) ?_
    exact hf
end Os
end
section
set_option linter.all false
set_option maxRecDepth 100000
set_option maxHeartbeats 4000000
namespace Os
open PySem PySem.Spec PyProof.Rows L2
theorem ints_tm {L : List Int} (h : ∀ x ∈ L, x.natAbs < 10 ^ 10) (hl : L.length ≤ 100) : Tm 1 200 (.tuple (L.map .int)) := Tm.tup (k := 0) (m := 1) (fun z hz => by
  obtain ⟨x, hx, rfl⟩ := List.mem_map.mp hz
  exact Tm.int (by have := h x hx; omega)) (by rw [List.length_map]; omega)
theorem bars_ok {ts : List Th} (h : OkTs ts) : ∀ x ∈ bars ts, x.natAbs < 10 ^ 10 := fun x hx => by
  obtain ⟨y, hy, e⟩ := List.mem_filterMap.mp hx
  cases y with
  | bar n =>
    simp only [barN, Option.some.injEq] at e
    subst e
    exact h.1 _ hy
  | mark => cases e
  | row => cases e
def D1 (i : Int) : D := .int i
theorem nums_cut {p : Int} (h : 0 ≤ p ∧ p < 5) : ∃ ns : List Int, cutD [D1 1, D1 2, D1 5, D1 9] none (some p) = ns.map .int ∧ List.Pairwise (· < ·) (0 :: ns) ∧ (∀ n ∈ ns, n.natAbs < 1000) ∧ ns.length ≤ 4 := by
  have : p = 0 ∨ p = 1 ∨ p = 2 ∨ p = 3 ∨ p = 4 := by omega
  rcases this with rfl | rfl | rfl | rfl | rfl
  · exact ⟨[], rfl, by simp, by simp, by simp⟩
  · exact ⟨[1], rfl, by simp, by simp, by simp⟩
  · exact ⟨[1, 2], rfl, by simp, by simp, by simp⟩
  · exact ⟨[1, 2, 5], rfl, by simp, by simp, by simp⟩
  · exact ⟨[1, 2, 5, 9], rfl, by simp, by simp, by simp⟩
theorem things_right_sem (S : Src) : ∃ S', E_w_things_right.sem [.src] (some S) = some (.bool true, some S') := by
  let ρ0 : LSS := [.src, .un, .un, .un, .un, .un, .un, .un, .un, .un, .un, .un]
  obtain ⟨y, hy, e1⟩ := pick_idx (Φ := F_16) (f := 9) (i := 0) (m := 3) (S := S) (ρ := vw .f ρ0) (e := .lst (.cons (.k (.int 0)) (.cons (.k (.int 0)) (.cons (.k (.int 7)) .nil)))) (xs := [.int 0, .int 0, .int 7]) (by
    simp [ev, evs, Option.bind, Option.map, sz3]) P_16_9 rfl (by decide) (by decide) rfl
  have hy' : ∃ m0 : Int, y = .int m0 ∧ m0.natAbs < 1000 := by
    simp only [List.mem_cons, List.not_mem_nil, or_false] at hy
    rcases hy with rfl | rfl | rfl <;> exact ⟨_, rfl, by decide⟩
  obtain ⟨m0, rfl, hm0⟩ := hy'
  generalize (pickS 3 S).2 = S1 at e1
  have hr := pickS_range (m := 5) (S := S1) (by decide)
  obtain ⟨ns, n1, n2, n3, n4⟩ := nums_cut hr
  obtain ⟨ts, S2, mark, l, ed, okt, okr, hlen⟩ := draw_sem hm0 ns n2 n3 n4 (pickS 5 S1).2
  have e2 : ev F_16 (.call 12 (.src 0 (.cons (.nm 1) (.cons (.slc (.lst (.cons (.k (.int 1)) (.cons (.k (.int 2)) (.cons (.k (.int 5)) (.cons (.k (.int 9)) .nil))))) .no (.yes (.call 9 (.src 0 (.cons (.k (.int 5)) .nil))))) (.cons (.k (.int 3)) .nil))))) [.src, .d (.int m0), .un, .un, .un, .un, .un, .un, .un, .un, .un, .un] (some S1) = some (.tuple (tds ts), some S2) := by
    have ep : ev F_16 (.call 9 (.src 0 (.cons (.k (.int 5)) .nil))) [.src, .d (.int m0), .un, .un, .un, .un, .un, .un, .un, .un, .un, .un] (some S1) = some (.int (pickS 5 S1).1, some (pickS 5 S1).2) := ev_call (eva_src rfl (eva_cons (by rw [ev]) eva_nil)) P_16_9 rfl (pick_sem (by decide))
    have es : ev F_16 (.slc (.lst (.cons (.k (.int 1)) (.cons (.k (.int 2)) (.cons (.k (.int 5)) (.cons (.k (.int 9)) .nil))))) .no (.yes (.call 9 (.src 0 (.cons (.k (.int 5)) .nil))))) [.src, .d (.int m0), .un, .un, .un, .un, .un, .un, .un, .un, .un, .un] (some S1) = some (.list (ns.map .int), some (pickS 5 S1).2) := by
      have el : ev F_16 (.lst (.cons (.k (.int 1)) (.cons (.k (.int 2)) (.cons (.k (.int 5)) (.cons (.k (.int 9)) .nil))))) [.src, .d (.int m0), .un, .un, .un, .un, .un, .un, .un, .un, .un, .un] (some S1) = some (.list [D1 1, D1 2, D1 5, D1 9], some S1) := by
        simp [ev, evs, Option.bind, Option.map, sz4, D1]
      rw [ev, el]
      simp only [Option.bind, evo, ep, bnd, Option.map, dSlc, n1]
    exact ev_call (eva_src rfl (eva_cons (ev_nm rfl) (eva_cons es (eva_cons (by rw [ev]) eva_nil)))) P_16_12 rfl ed
  have hb := ints_tm (bars_ok okt) (Nat.le_trans (bars_len ts) okt.2)
  have eB := hb.repr (by decide) (by decide)
  -- the barriers' places
  obtain ⟨ρ', s', h, a5, a6, hρ, hs⟩ := forRun_ind (f := runs F_16 M_w_things_right_2) (t := .nm 5) (fun j ρ s => ∃ a5 a6, ρ = rt m0 ts (.frz (.list ((bars ts).map .int))) .un a5 a6 .un .un .un .un .un ∧ s = some S2) [.int 1, .int 2, .int 3, .int 9] 0
    (ρ := rt m0 ts (.frz (.list ((bars ts).map .int))) .un .un .un .un .un .un .un .un) (s := some S2) ⟨.un, .un, rfl, rfl⟩ (fun i x ρ s hx hP => by
      obtain ⟨a5, a6, rfl, rfl⟩ := hP
      have hx' : ∃ n : Int, x = .int n ∧ n.natAbs < 10 ^ 10 := by
        have := List.mem_of_getElem? hx
        simp only [List.mem_cons, List.not_mem_nil, or_false] at this
        rcases this with rfl | rfl | rfl | rfl <;> exact ⟨_, rfl, by decide⟩
      obtain ⟨n, rfl, hn⟩ := hx'
      obtain ⟨b6, hat⟩ := at_run (m0 := m0) (n := n) (ts := ts) (a3 := .frz (.list ((bars ts).map .int))) (a4 := .un) (a6 := a6) (a7 := .un) (a8 := .un) (a9 := .un) (a10 := .un) (a11 := .un) (s := some S2) okt hn
      exact ⟨rt m0 ts (.frz (.list ((bars ts).map .int))) .un (.frz (.int n)) a6 .un .un .un .un .un, _, _, rfl, .inl hat, .frz (.int n), b6, rfl, rfl⟩)
  subst hρ hs
  obtain ⟨ρ2, s2, h2, b7, b8, b9, b10, b11, S3, hρ2, hs2⟩ := forRun_ind (f := runs F_16 M_w_things_right_1) (t := .nm 8) (fun j ρ s => ∃ a7 a8 a9 a10 a11 S3, ρ = rt m0 ts (.frz (.list ((bars ts).map .int))) .un a5 a6 a7 a8 a9 a10 a11 ∧ s = some S3) (rangeD 0 6) 0
    (ρ := rt m0 ts (.frz (.list ((bars ts).map .int))) .un a5 a6 .un .un .un .un .un) (s := some S2) ⟨.un, .un, .un, .un, .un, S2, rfl, rfl⟩ (fun i x ρ s hx hP => by
      obtain ⟨a7, a8, a9, a10, a11, S3, rfl, rfl⟩ := hP
      have hx' : ∃ lap : Nat, x = .int (lap : Nat) := by
        obtain ⟨j, _, rfl⟩ := List.mem_map.mp (List.mem_of_getElem? hx)
        exact ⟨j, by simp⟩
      obtain ⟨lap, rfl⟩ := hx'
      obtain ⟨c7, c9, c10, c11, S4, hbd⟩ := bend_run (m0 := m0) (ts := ts) (lap := lap) (a3 := .frz (.list ((bars ts).map .int))) (a4 := .un) (a5 := a5) (a6 := a6) (a7 := a7) (a9 := a9) (a10 := a10) (a11 := a11) (S := S3) okt hlen hm0
      exact ⟨rt m0 ts (.frz (.list ((bars ts).map .int))) .un a5 a6 a7 (.frz (.int (lap : Nat))) a9 a10 a11, _, _, rfl, .inl hbd, c7, .frz (.int (lap : Nat)), c9, c10, c11, S4, rfl, rfl⟩)
  subst hρ2 hs2
  refine ⟨S3, sem_rt ρ0 rfl ?_⟩
  refine runs_nx [.src, .frz (.int m0), .un, .un, .un, .un, .un, .un, .un, .un, .un, .un] (some S1) (run_set e1 rfl (by simp [ρ0])) ?_
  refine runs_nx (rt m0 ts .un .un .un .un .un .un .un .un .un) (some S2) (run_set e2 rfl (by simp)) ?_
  refine runs_nx (rt m0 ts (.frz (.list ((bars ts).map .int))) .un .un .un .un .un .un .un .un) (some S2) (run_set (numbersL okt rfl (by simp [rt, vw])) rfl (by simp [rt])) ?_
  refine runs_nx _ (some S2) (run_skip (ev_or (ev_ne (ev_b1 (ev_call (eva_cons (ev_nm rfl) eva_nil) P_16_7 rfl (numbers_sem okt)) eB) (ev_b1 (ev_b1 (ev_nm rfl) rfl) eB)) (k := false) ?_)) ?_
  · have ej : ev F_16 (.call 8 (.cons (.nm 2) (.cons (.nm 1) .nil))) ((rt m0 ts (.frz (.list ((bars ts).map .int))) .un .un .un .un .un .un .un .un).map SS.r) (some S2) = some (.none, some S2) := ev_call (eva_cons (ev_nm rfl) (eva_cons (ev_nm rfl) eva_nil)) P_16_8 rfl (by rw [judge_sem (ts := ts) rfl, okr.jud 0])
    rw [ev, ej]
    rfl
  refine runs_nx _ (some S2) (run_for (xs := [.int 1, .int 2, .int 3, .int 9]) (s1 := some S2) (by simp [evi, ev, evs, seqOf, Option.bind, Option.map, sz4]) h) ?_
  refine runs_nx _ (some S3) (run_for (xs := rangeD 0 6) (s1 := some S2) (by simp [evi, ev, rangeD, Option.bind]) h2) ?_
  exact runs_rt (run_ret (by rw [ev]))
/-! the law's own text -/
theorem law_runs (S : Src) (a0 a2 a3 : SS) : ∃ S', runs F_17 M_law [a0, .src, a2, a3] (some S) = some (.rt (.bool true) (some S')) := by
  obtain ⟨ρ', s', h, b2, S1, hρ, hs⟩ := forRun_ind (f := runs F_17 M_law_1) (t := .nm 2) (fun j ρ s => ∃ b2 S1, ρ = [a0, .src, b2, a3] ∧ s = some S1) (rangeD 0 3) 0 (ρ := [a0, .src, a2, a3]) (s := some S) ⟨a2, S, rfl, rfl⟩ (fun i x ρ s hx hP => by
    obtain ⟨b2, S1, rfl, rfl⟩ := hP
    obtain ⟨S2, h1⟩ := waiting_right_sem S1
    obtain ⟨S3, h2⟩ := things_right_sem S2
    obtain ⟨S4, h3⟩ := things_right_sem S3
    refine ⟨[a0, .src, .frz x, a3], [a0, .src, .frz x, a3], some S4, rfl, .inl ?_, .frz x, S4, rfl, rfl⟩
    have e : ∀ (f : Nat) (F : FE) (S S' : Src), F_17[f]? = some F → F.ar = 1 → F.sem [.src] (some S) = some (.bool true, some S') → ev F_17 (.not_ (.call f (.src 1 .nil))) ([a0, .src, .frz x, a3].map SS.r) (some S) = some (.bool false, some S') := fun f F S S' hf ha hs => by
      rw [ev, ev_call (eva_src rfl eva_nil) hf (by rw [ha]; rfl) hs]
      rfl
    exact runs_nx _ (some S4) (run_skip (ev_or (e 14 _ S1 S2 P_17_14 rfl h1) (ev_or (e 16 _ S2 S3 P_17_16 rfl h2) (e 16 _ S3 S4 P_17_16 rfl h3)))) rfl)
  subst hρ hs
  let tw : List Th := [.bar 1, .mark 4, .bar 1, .mark 3]
  have okw : OkTs tw := ⟨fun x hx => by
    simp only [tw, List.mem_cons, List.not_mem_nil, or_false] at hx
    rcases hx with rfl | rfl | rfl | rfl <;> simp [okTh], by simp [tw]⟩
  refine ⟨S1, ?_⟩
  refine runs_nx _ (some S1) (run_for (xs := rangeD 0 3) (s1 := some S) (by simp [evi, ev, rangeD, Option.bind]) h) ?_
  refine runs_nx [a0, .src, b2, .frz (.tuple (tds tw))] (some S1) (run_set (d := .tuple (tds tw)) (by simp [ev, evs, Option.bind, Option.map, sz4, sz2, tds, tw, td, tword, ttold]) rfl (by simp)) ?_
  have h3 : ([a0, .src, b2, .frz (.tuple (tds tw))].map SS.r)[3]? = some (.d (.tuple (tds tw))) := rfl
  have e1 : ev F_17 (.call 5 (.cons (.nm 3) (.cons (.k (.int 1)) .nil))) ([a0, .src, b2, .frz (.tuple (tds tw))].map SS.r) (some S1) = some (.tuple [], some S1) := ev_call (eva_cons (ev_nm h3) (eva_cons (by rw [ev]) eva_nil)) P_17_5 rfl (before_sem (n := 1) okw (by decide))
  have e2 : ev F_17 (.call 6 (.cons (.nm 3) (.cons (.k (.int 1)) .nil))) ([a0, .src, b2, .frz (.tuple (tds tw))].map SS.r) (some S1) = some (.tuple (tds [.mark 4, .bar 1, .mark 3]), some S1) := ev_call (eva_cons (ev_nm h3) (eva_cons (by rw [ev]) eva_nil)) P_17_6 rfl (behind_sem (n := 1) okw (by decide))
  have e3 : ev F_17 (.call 8 (.cons (.nm 3) (.cons (.k (.int 0)) .nil))) ([a0, .src, b2, .frz (.tuple (tds tw))].map SS.r) (some S1) = some (.tuple [.str "barrier", .int 2], some S1) := ev_call (eva_cons (ev_nm h3) (eva_cons (by rw [ev]) eva_nil)) P_17_8 rfl (judge_sem (ts := tw) rfl)
  have e4 : ev F_17 (.call 7 (.cons (.tup .nil) .nil)) ([a0, .src, b2, .frz (.tuple (tds tw))].map SS.r) (some S1) = some (.tuple [], some S1) := ev_call (eva_cons (x := .tuple (tds [])) (by simp [ev, evs, sz0, tds]) eva_nil) P_17_7 rfl (numbers_sem (ts := []) ⟨fun x hx => (nomatch hx), by simp⟩)
  have e5 : ev F_17 (.slc (.nm 3) (.yes (.k (.int 1))) .no) ([a0, .src, b2, .frz (.tuple (tds tw))].map SS.r) (some S1) = some (.tuple (tds [.mark 4, .bar 1, .mark 3]), some S1) := by
    rw [ev, ev_nm h3]
    simp only [Option.bind, evo, ev, bnd, Option.map, dSlc, cut_tds]
    rfl
  have e6 : ev F_17 (.tup (.cons (.k (.str "barrier")) (.cons (.k (.int 2)) .nil))) ([a0, .src, b2, .frz (.tuple (tds tw))].map SS.r) (some S1) = some (.tuple [.str "barrier", .int 2], some S1) := by simp [ev, evs, Option.bind, Option.map, sz2]
  have e0 : ev F_17 (.tup .nil) ([a0, .src, b2, .frz (.tuple (tds tw))].map SS.r) (some S1) = some (.tuple [], some S1) := by simp [ev, evs, sz0]
  have l4 : ∀ (a b c d : ME) (x y z w : PyData), ev F_17 a ([a0, .src, b2, .frz (.tuple (tds tw))].map SS.r) (some S1) = some (x, some S1) → ev F_17 b ([a0, .src, b2, .frz (.tuple (tds tw))].map SS.r) (some S1) = some (y, some S1) → ev F_17 c ([a0, .src, b2, .frz (.tuple (tds tw))].map SS.r) (some S1) = some (z, some S1) → ev F_17 d ([a0, .src, b2, .frz (.tuple (tds tw))].map SS.r) (some S1) = some (w, some S1) →
      ev F_17 (.lst (.cons a (.cons b (.cons c (.cons d .nil))))) ([a0, .src, b2, .frz (.tuple (tds tw))].map SS.r) (some S1) = some (.list [x, y, z, w], some S1) := fun a b c d x y z w h1 h2 h3 h4 => by
    rw [ev, evs, h1]
    simp only [Option.bind, evs, h2, h3, h4, Option.map]
    rw [if_pos (by show 4 ≤ sizeLine; decide)]
  refine runs_rt (run_ret (ev_cmp (l4 _ _ _ _ _ _ _ _ e1 e2 e3 e4) (l4 _ _ _ _ _ _ _ _ e0 e5 e6 e0) ?_))
  have t : Tm 6 100000 (.list [.tuple [], .tuple (tds [.mark 4, .bar 1, .mark 3]), .tuple [.str "barrier", .int 2], .tuple []]) := ⟨by decide +kernel, by decide +kernel, by decide +kernel⟩
  simp only [dCmp, dEq]
  rw [if_pos ⟨t.shaped (by decide), t.shaped (by decide)⟩, t.eqv]
end Os
end
section
set_option linter.all false
set_option maxRecDepth 100000
set_option maxHeartbeats 4000000
/-! K19n: copied, BadBarrier. -/
namespace Os
open PySem PySem.Spec PySem.Calls PyProof.Rows L2
def classBody : Stmt → List Stmt
  | .ClassDef _ _ _ b _ _ _ _ _ _ _ => b
  | _ => []
abbrev t_init : Stmt := (classBody (tp 3)).getD 0 (.Pass ⟨0, 0, 0, 0⟩)
def tIsi (K : PySem.W.Frag) (T : String) : TT := tB (tCB (rIsi K) (tCons (tVar 0) (tCons (tC (.ty T)) tNil)))
def tCopied (K : PySem.W.Frag) : TS := tSeq (tIfS (tIsi K "list") tDead tNext) (tSeq (tIfS (tIsi K "tuple") tDead tNext) (tSeq (tIfS (tIsi K "dict") tDead tNext) (tRet (tVar 0))))
theorem S_copied : FnScope ["value"] ["value"] (defScope t_copied) := ⟨rfl, rfl, rfl, by decide +kernel, rfl, by decide +kernel, by decide +kernel⟩
section
variable {P : Program} {w : World} {K : PySem.W.Frag} {mg : Str → Option Value} {base : Heap} {fc : Addr} {fdc : FuncData}
theorem isi_no {H : Hp} {n : Int} {σ : L2.St} {k : Bool → Hp → Prop} {T : String} (hs : σ = [some (.int n)]) (ht : PySem.W.kitOne K (.type "int") (.type T) = some false) (h : k false H) : tIsi K T σ H k := by
  subst hs
  exact ⟨.int n, rfl, .int n, .ty T, .type "int", .type T, false, rfl, .ty T, .base (.int n), ht, false, rfl, h⟩
theorem ok_copied (Fd : Fun K "copied" "copied" t_copied fc fdc) (hi : mg "isinstance" = none) (h1 : mg "list" = none) (h2 : mg "tuple" = none) (h3 : mg "dict" = none) : FnOk P w K mg base CX0 1 fc fdc ["value"] spInt := by
  refine Fd.ok S_copied (fun vs H Q E ⟨n, h, _⟩ => by rw [h]; rfl) (fun cdv A outer s H vs Q E hr h => ⟨tCopied K, ?_, ?_⟩)
  · exact pss_cons (ps_if (pt_val (pe_callB call_isi rfl hi rfl (pa_cons (pv 0) (pa_cons (pe_bltn rfl h1 rfl rfl) pa_nil)))) pss_dead pss_nil)
      (pss_cons (ps_if (pt_val (pe_callB call_isi rfl hi rfl (pa_cons (pv 0) (pa_cons (pe_bltn rfl h2 rfl rfl) pa_nil)))) pss_dead pss_nil)
      (pss_cons (ps_if (pt_val (pe_callB call_isi rfl hi rfl (pa_cons (pv 0) (pa_cons (pe_bltn rfl h3 rfl rfl) pa_nil)))) pss_dead pss_nil)
      (pss_one (ps_ret (pv 0)))))
  · obtain ⟨n, rfl, q⟩ := h
    refine isi_no rfl (by rfl) ?_
    refine isi_no rfl (by rfl) ?_
    refine isi_no rfl (by rfl) ?_
    exact ⟨_, rfl, q⟩
end
abbrev Fi (cc c : Addr) : NdefX.NF := ⟨"__init__", "BadBarrier.__init__", defArgs t_init, defBody t_init, defScope t_init, [(("__class__" : Str), cc)], c⟩
theorem S_init : NdefX.NScope ["self", "number", "__class__"] ["self", "number"] ["__class__"] (defScope t_init) := NdefX.nscope_by (by decide +kernel)
def spInit (C : Addr) : Sp := fun vs H Q _ => ∃ (a : Addr) (n : Int), vs = [.ref a, .int n] ∧ H a = some (exo a C none) ∧
  ∀ dx, H dx = none → dx ≠ a → Q .non (upd (upd H dx (exd dx [(("number" : Str), .int n)])) a (exo a C (some dx)))
def tCop : TE := tCall spInt [] (fun _ _ _ => False) (tCons (tVar 1) tNil)
section
variable {P : Program} {w : World} {K : PySem.W.Frag} {mg : Str → Option Value} {base : Heap} {fc C fI cc c : Addr} {fdc fd : FuncData}
theorem ok_init (T : SupT P K mg C fI cc (Fi cc c) fd) (O : OexC K C) (hno : PySem.W.findIn K (.ref C) "number" = some none) (Fc : FnOk P w K mg base CX0 1 fc fdc ["value"] spInt) (gc : mg "copied" = some (.ref fc)) (kc : PySem.W.keepIn K (.ref fc) = true) (bc : Binds K fdc ["value"] []) :
    FnOk P w K mg base (L2.CX P w) 2 fI fd ["self", "number"] (spInit C) := by
  refine init_ok (N := ["self", "number", "__class__"]) (ps := ["number"]) T O S_init (by rfl) (fun vs H Q E ⟨a, n, h, _⟩ => by rw [h]; rfl) (fun A outer s H vs Q E hr h => ?_) (fun L => ⟨_, rfl⟩) (fun L => rfl) (fun L => rfl) (fun L => rfl)
  obtain ⟨a, n, rfl, ha, q⟩ := h
  refine ⟨a, [.int n], tCons tCop tNil, tOst K "number" (tVar 0) tCop, rfl, ha, ?_, ?_, ?_⟩
  · exact pa_cons (pe_call Fc hr rfl gc kc bc .nil (fun _ _ _ _ _ _ _ z => False.elim z) (pa_cons (pv 1) pa_nil)) pa_nil
  · exact pss_one (ps_ost (pv 0) (pe_call Fc hr rfl gc kc bc .nil (fun _ _ _ _ _ _ _ z => False.elim z) (pa_cons (pv 1) pa_nil)))
  · exact ⟨_, rfl, n, rfl, (show 1 ≤ 1000 by decide), ha, ⟨_, rfl, n, rfl, _, rfl, a, C, rfl, O, hno, .inl ⟨ha, fun dx h1 h2 => q dx h1 h2⟩⟩⟩
end
end Os
end
section
set_option linter.all false
set_option maxRecDepth 100000
set_option maxHeartbeats 4000000
/-! K19o: come refuses. -/
namespace Os
open PySem PySem.Spec PySem.Calls PyProof.Rows L2
def ifTest : Stmt → Expr
  | .If c _ _ _ => c
  | _ => .Constant .none 0 ⟨0, 0, 0, 0⟩
def m_c1 : MS := (.unp (.two (.nm 4) (.nm 5)) .f (.ite (.isN (.nm 0)) (.tup (.cons (.nm 3) (.cons (.tup .nil) .nil))) (.nm 0)))
def m_c2 : ME := (.or_ (.cmp .ne (.nm 4) (.nm 3)) (.cmp .isin (.nm 2) (.nm 5)))
theorem T_c1 : TrS F_00 gkL N_come (defScope t_come) ((defBody t_come).getD 0 (.Pass ⟨0, 0, 0, 0⟩)) m_c1 := (.unp .f (.two (.nm rfl (.inl (by decide +kernel)) (.inl rfl)) (.nm rfl (.inl (by decide +kernel)) (.inl rfl))) (.ite (.isN (.nm rfl (.inl (by decide +kernel)) (by decide +kernel) (by decide +kernel))) (.tup (.cons (.nm rfl (.inl (by decide +kernel)) (by decide +kernel) (by decide +kernel)) (.cons (.tup .nil) .nil))) (.nm rfl (.inl (by decide +kernel)) (by decide +kernel) (by decide +kernel))) (fun _ => rfl) (fun _ => rfl))
theorem T_c2 : TrE F_00 gkL N_come (defScope t_come) (ifTest ((defBody t_come).getD 1 (.Pass ⟨0, 0, 0, 0⟩))) m_c2 := (.bo (o := .Or) (.cons (.cmp .ne (.nm rfl (.inl (by decide +kernel)) (by decide +kernel) (by decide +kernel)) (.nm rfl (.inl (by decide +kernel)) (by decide +kernel) (by decide +kernel)) rfl) (.one (.cmp .isin (.nm rfl (.inl (by decide +kernel)) (by decide +kernel) (by decide +kernel)) (.nm rfl (.inl (by decide +kernel)) (by decide +kernel) (by decide +kernel)) rfl))))
/-- come(W, those channels, ch, n) refused: the error's dict holds the number -/
def spCome (w : World) (C : Addr) : Sp := fun vs H _ E => ∃ (g : Option (Addr × Addr)) (G : Addr → Prop) (s : S1) (m x ch : D) (cs : List D) (n : Int), (∀ b, G b → ¬ Own2 g b) ∧ SrcR g H s ∧ AR w g G H vs [.d (.tuple [m, .tuple cs]), .d x, .d ch, .d (.int n)] ∧
  (dEq m (.int n) = some false ∨ (dEq m (.int n) = some true ∧ dIn ch (.tuple cs) = some true)) ∧ ∀ H' d, Keep g H H' → SrcR g H' s → H' d = some (.xd [(("number" : Str), .int n)]) → E (.ref C) (some d) H'
def tBB (C : Addr) (E : XK) : TS := fun _ σ H => tMkO C (spInit C) [] (tCons (tVar 3) tNil) σ H fun cls d H' => E cls d H'
section
variable {P : Program} {w : World} {K : PySem.W.Frag} {mg : Str → Option Value} {base : Heap} {fc C fI cc c f : Addr} {fdc fd fI' : FuncData}
theorem come_c1 {m x ch : D} {cs : List D} {n : Int} {s : S1} : run F_00 m_c1 [.frz (.tuple [m, .tuple cs]), .frz x, .frz ch, .frz (.int n), .un, .un] s = some (.nx [.frz (.tuple [m, .tuple cs]), .frz x, .frz ch, .frz (.int n), .frz m, .frz (.tuple cs)] s) := by
  simp [m_c1, run, evM, ev, evs, vw, SS.f, isNone, tru, slotOf, bindS, Option.bind, Option.map]
theorem come_c2 {m x ch : D} {cs : List D} {n : Int} {s : S1} (h : dEq m (.int n) = some false ∨ (dEq m (.int n) = some true ∧ dIn ch (.tuple cs) = some true)) :
    ev F_00 m_c2 ([SS.frz (.tuple [m, .tuple cs]), .frz x, .frz ch, .frz (.int n), .frz m, .frz (.tuple cs)].map SS.r) s = some (.bool true, s) := by
  rcases h with h | ⟨h1, h2⟩
  · simp [m_c2, ev, SS.r, Option.bind, Option.map, dCmp, h, tru]
  · simp [m_c2, ev, SS.r, Option.bind, Option.map, dCmp, h1, h2, tru]
theorem ok_come {k : Nat} (M : MF P w K mg base F_00 gkL k) (Fd : Fun K "come" "come" t_come f fd) (O : OexC K C) (iC : PySem.W.findIn K (.ref C) "__init__" = some (some (.ref fI))) (tI : PySem.W.typeIn K (.ref fI) = some (.type "function"))
    (F1 : FnOk P w K mg base (L2.CX P w) 2 fI fI' ["self", "number"] (spInit C)) (bI : Binds K fI' ["self", "number"] []) (gC : mg "BadBarrier" = some (.ref C)) (hk : 3 ≤ k) : FnXG P w K mg base (k + 1) f fd ["waiting", "channels", "channel", "n"] (spCome w C) := by
  refine fnX_body Fd S_come (fun vs H Q E ⟨g, G, s, m, x, ch, cs, n, gok, r, ha, _⟩ => by rw [ha.length]; rfl) fun cdv A outer s0 H vs Q E room ⟨g, G, s, m, x, ch, cs, n, gok, r, ha, hc, q⟩ => ?_
  have XCo : XC (cxOf (L2.CX P w) P w K mg base N_come "come" (defScope t_come) f cdv A outer s0 H E) F_00 gkL k := ⟨rfl, room, S_come.nd, M.bl, M.fns, M.gks⟩
  have XSo : XS (cxOf (L2.CX P w) P w K mg base N_come "come" (defScope t_come) f cdv A outer s0 H E) F_00 gkL k := ⟨XCo, fun _ => rfl, passes_of rfl⟩
  refine ⟨tSeq (tS w F_00 m_c1) (tSeq (tIfS (tT w F_00 m_c2) (tBB C E) tNext) tDead), ?_, ?_⟩
  · exact pss_cons (sndS T_c1 _ XSo rfl rfl) (pss_cons (ps_if (snd T_c2 _ XCo rfl rfl).pt (pss_one (ps_raise rfl (takes_of rfl rfl rfl rfl) (pmk_oex O iC tI F1 (room.r.mono hk) bI .nil passL rfl gC (pa_cons (pv 3) pa_nil)))) pss_nil) pss_dead)
  · refine ⟨g, G, H, _, _, _, s, _, SR.entry (N := N_come) gok r ha (show 4 ≤ 6 by decide), come_c1, fun σ H1 F1 A1 E1 kg ff => ?_⟩
    refine ⟨g, _, _, s, .bool true, s, true, SR.esR (τ := []) (π := []) (by simpa using E1) E1.len, come_c2 hc, rfl, fun H2 k2 r2 => ?_⟩
    show if true = true then tBB C E _ σ H2 else _
    rw [if_pos rfl]
    have E2 := E1.step k2 r2
    obtain ⟨v, hv, hd⟩ := E2.slot 3 (.frz (.int n)) rfl
    cases hd
    refine ⟨.int n, hv, (show 1 ≤ 1000 by decide), fun a ha2 => ⟨a, n, rfl, upd_same, fun dx hdx hne => ⟨rfl, dx, [(("number" : Str), .int n)], upd_same, (upd_ne hne).trans upd_same, ?_, ?_⟩⟩⟩
    · rw [upd_ne hne] at hdx
      exact hdx
    · rw [upd_ne hne] at hdx
      have sm : Same H2 (upd H2 dx (.xd [(("number" : Str), .int n)])) := fun b o e => by
        rw [upd_ne (ne_of_none e hdx)]
        exact e
      have eu : ∀ o1 o2 o3 o4, upd (del (upd (upd (upd H2 a o1) dx o2) a o3) a) dx o4 = upd H2 dx o4 := by
        intro o1 o2 o3 o4
        funext b
        by_cases h1 : b = dx
        · rw [h1, upd_same, upd_same]
        · rw [upd_ne h1, upd_ne h1]
          by_cases h2 : b = a
          · rw [h2, del_same, ha2]
          · rw [del_ne h2, upd_ne h2, upd_ne h1, upd_ne h2]
      rw [eu]
      exact q _ dx (E2.keep.trans (Keep.of sm)) (E2.src.same sm) upd_same
end
end Os
end
section
set_option linter.all false
set_option maxRecDepth 100000
set_option maxHeartbeats 4000000
/-! K19p: _law_barred. -/
namespace Os
open PySem PySem.Spec PySem.Calls PyProof.Rows L2
abbrev N_br : List Str := ["_law_waiting", "_law_channels", "_law_channel", "_law_n", "_law_found", "e"]
theorem S_br : FnScope N_br ["_law_waiting", "_law_channels", "_law_channel", "_law_n"] (defScope t_w_barred) := ⟨rfl, rfl, rfl, by decide +kernel, rfl, by decide +kernel, by decide +kernel⟩
def rX (K : PySem.W.Frag) (C a : Addr) (cls : Value) (d : Option Addr) : List V → Hp → VK → Prop := fun xs H Q => cls = .ref C ∧ ∃ (c : V) (cv : Value) (b : Bool) (dd : Addr) (fs : List (Str × V)), xs = [.ref a, c] ∧ d = some dd ∧ (∀ u, RelV c u → u = cv) ∧ PySem.W.kitOne K (.ref C) cv = some b ∧ H dd = some (.xd fs) ∧ Q (.bl b) H
def tsBr (K : PySem.W.Frag) (C S : Addr) : Addr → Value → Option Addr → TS := fun a cls d =>
  tAsg (tLst (tCons (tIf (tB (tCB (rX K C a cls d) (tCons (tVar 5) (tCons (tC (.ref S)) tNil)))) (tXf a cls d C "number" (tVar 5)) (tC .non)) tNil)) (gName 4)
def tbBr (w : World) (C : Addr) (W : WX) : TS := tDrop (tCallS (spCome w C) (WE W) (tCons (tVar 0) (tCons (tVar 1) (tCons (tVar 2) (tCons (tVar 3) tNil)))))
def tBr (w : World) (K : PySem.W.Frag) (C S : Addr) : TS :=
  tSeq (tAsg (tLst tNil) (gName 4)) (tSeq (fun D σ H => tbBr w C (wAs K (.ref C) 5 (tsBr K C S) (fun _ _ _ _ => False) D) D σ H) (tRet (tVar 4)))
section
variable {P : Program} {w : World} {K : PySem.W.Frag} {mg : Str → Option Value} {base : Heap} {C S f fb : Addr} {fd fdb : FuncData}
theorem if_pos_of {A B : Prop} (h : A) : if true = true then A else B := by
  rw [if_pos rfl]
  exact h
theorem barred_inv {as : List SL} {s s' : S1} {d : D} (h : barredF.sem as s = some (d, s')) : ∃ (m x ch : D) (cs : List D) (n : Int), as = [.d (.tuple [m, .tuple cs]), .d x, .d ch, .d (.int n)] ∧ (dEq m (.int n) = some false ∨ (dEq m (.int n) = some true ∧ dIn ch (.tuple cs) = some true)) ∧ d = .list [.int n] ∧ s' = s := by
  unfold barredF at h
  dsimp only at h
  split at h
  · rename_i w x ch n
    split at h
    · rename_i m cs
      split at h
      · rename_i hc
        cases h
        exact ⟨m, x, ch, cs, n, rfl, hc, rfl, rfl⟩
      · cases h
    · cases h
  · cases h
theorem ok_barred {k : Nat} (Fd : Fun K "_law_barred" "_law_barred" t_w_barred fb fdb) (Fc : FnXG P w K mg base k f fd ["waiting", "channels", "channel", "n"] (spCome w C)) (gc : mg "come" = some (.ref f)) (kc : PySem.W.keepIn K (.ref f) = true) (bc : Binds K fd ["waiting", "channels", "channel", "n"] [])
    (gC : mg "BadBarrier" = some (.ref C)) (gS : mg "StreamError" = some (.ref S)) (gi : mg "isinstance" = none) (XC1 : ExcC K C) (XF : XfC K C) (hno : PySem.W.findIn K (.ref C) "number" = some none) (te : PySem.W.exmOne K (.ref C) (.ref C) = some true) (hk : PySem.W.kitOne K (.ref C) (.ref S) = some true) :
    FnG P w K mg base (k + 1) fb fdb ["_law_waiting", "_law_channels", "_law_channel", "_law_n"] (spF w barredF) := by
  refine fnG_body Fd S_br (fun vs H Q E ⟨g, G, as, s, d, s', gok, r, ha, hl, _⟩ => by rw [ha.length, hl]; rfl) fun cdv A outer s0 H vs Q E room ⟨g, G, as, s, d, s', gok, r, ha, hl, hs, q⟩ => ?_
  refine ⟨tBr w K C S, ?_, ?_⟩
  · exact pss_cons (ps_set (i := 4) S_br.nd rfl (Or.inl rfl) (pe_lst pa_nil))
      (pss_cons (ps_try_as (i := 5) (tb := tbBr w C) (ts := tsBr K C S) (Wout := fun _ _ _ _ => False) rfl rfl S_br.nd rfl rfl ⟨rfl, by decide, Or.inl gC⟩ takes0
        (fun W pn xe tk _ => pss_one (ps_expr (pe_callX Fc room rfl gc kc bc (fun σ => passAt tk σ) (pa_cons (pv 0) (pa_cons (pv 1) (pa_cons (pv 2) (pa_cons (pv 3) pa_nil)))))))
        (fun a oe cls d pn hz hf => pss_one (ps_set (i := 4) S_br.nd rfl (Or.inl rfl) (pe_lst (pa_cons (pe_ifExp (pt_val (pe_callB (call_isX XC1 hz hf) rfl gi rfl (pa_cons (pv 5) (pa_cons (pe_glob rfl gS rfl) pa_nil)))) (pe_xf XF hno hz hf (pv 5)) pe_non) pa_nil)))))
      (pss_one (ps_ret (pv 4))))
  · obtain ⟨m, x, ch, cs, n, rfl, hc, rfl, rfl⟩ := barred_inv hs
    cases ha with
    | cons a0 t0 =>
    cases t0 with
    | cons a1 t1 =>
    cases t1 with
    | cons a2 t2 =>
    cases t2 with
    | cons a3 t3 =>
    cases t3
    rename_i v0 v1 v2 v3 hsp
    refine ⟨(show 0 ≤ sizeLine from Nat.zero_le _), fun p hp => ?_⟩
    have sm1 : Same H (upd H p (.lst [])) := fun b o e => by
      rw [upd_ne (ne_of_none e hp)]
      exact e
    have r1 := r.same sm1
    have up : ∀ {v : V} {d : D}, Dat w G H v d → Dat w G (upd H p (.lst [])) v d := fun h => h.go (fun b o g e => ⟨sm1 b o e, g⟩) fun b o xs e => sm1 b _ e
    refine ⟨v0, rfl, v1, rfl, v2, rfl, v3, rfl, g, G, s', m, x, ch, cs, n, gok, r1, .cons (up a0) (.cons (up a1) (.cons (up a2) (.cons (up a3) .nil))), hc, fun H' d k' r' hd => ?_⟩
    refine ⟨true, te, fun _ a ha => ?_, fun z => Bool.noConfusion z⟩
    refine ⟨.ref a, rfl, rfl, .ref S, .ref S, true, d, _, rfl, rfl, fun u h => h, hk, hd, true, rfl, ?_⟩
    refine if_pos_of ⟨.ref a, rfl, rfl, rfl, d, _, .int n, rfl, hd, by simp [List.lookup], (show 1 ≤ sizeLine by rw [sizeLine_eq]; decide), fun p2 hp2 => ?_⟩
    have sm2 : Same H' (upd H' p2 (.lst [.int n])) := fun b o e => by
      rw [upd_ne (ne_of_none e hp2)]
      exact e
    have h0 : (upd H p (.lst [])) p2 = none := k'.alive r' hp2
    have hne : p2 ≠ p := fun z => by
      rw [z, upd_same] at h0
      cases h0
    rw [upd_ne hne] at h0
    exact ⟨_, rfl, q _ _ ⟨(Keep.of sm1).trans (k'.trans (Keep.of sm2)), r'.same sm2, .list (.inr h0) upd_same (.cons (.int n) .nil)⟩ fun z => Bool.noConfusion z⟩
end
end Os
end
section
set_option linter.all false
set_option maxRecDepth 100000
set_option maxHeartbeats 4000000
/-! K19q: the readings of _law_pick, _law_any_order, _law_open_cells. -/
namespace Os
open PySem PySem.Spec PySem.Calls PyProof.Rows L2
section
variable {X : Cx} {Φ : List FE} {gk : List (Str × D)} {k : Nat}
theorem hvar (N : List Str) (sc : Scope) (hN : X.N = N) (hs : X.env.scope = sc) (i : Nat) {x : Str} {pos : Pos} (h1 : N[i]? = some x := by rfl) (h2 : sc.names.lookup x = some .local := by rfl) (h3 : (x == ("__debug__" : Str)) = false := by decide) (h4 : (x == ("__classdict__" : Str)) = false := by decide) : PE X (.Name x pos) (tVar i) :=
  pe_var (by rw [hN]; exact h1) (.inl (by rw [hs]; exact h2)) h3 h4
theorem hgl (sc : Scope) (hs : X.env.scope = sc) {x : Str} (h : sc.names.lookup x = some .globalImplicit := by rfl) : Gl X x := by
  show X.env.scope.names.lookup x = _
  rw [hs]
  exact h
theorem der_pick (C : XS X Φ gk k) (hN : X.N = pickN) (hs : X.env.scope = defScope t_w_pick) : PSs X (defBody t_w_pick) (pk0 X.w X.K) := by
  have hu : X.A.units + 1 < cLine := hu_of C.c.rm.r
  have xr : XR X := C.c.xr
  have gi : Gl X "int" := hgl _ hs
  have mi : X.mg "int" = none := C.c.bl "int" (by decide)
  have gl : Gl X "len" := hgl _ hs
  have ml : X.mg "len" = none := C.c.bl "len" (by decide)
  have st : ∀ (i : Nat) {x : Str} {e : Expr} {te : TE} {p pos : Pos}, pickN[i]? = some x → (defScope t_w_pick).names.lookup x = some .local → PE X e te → swapsWith e (some (.Name x p)) pos.line X.env = pure false → PS X (.Assign [.Name x p] e pos) (tAsg te (gName i)) :=
    fun i x e te p pos h1 h2 he h3 => ps_set C.c.nd (by rw [hN]; exact h1) (.inl (by rw [hs]; exact h2)) he h3 (.inl (C.fn _))
  refine pss_cons (ps_if (pt_cmp (pc_lt (hvar _ _ hN hs 1) pe_int)) (pss_one (ps_ret pe_int)) pss_nil) ?_
  refine pss_cons (st 2 rfl rfl (pe_dget hu (hvar _ _ hN hs 0) pe_str (fun _ _ => rfl)) (by rfl)) ?_
  refine pss_cons (ps_while C.po (PW.pt (pw_and (pt_cmp (pc_lt (pe_dget hu (hvar _ _ hN hs 0) pe_str (fun _ _ => rfl)) pe_int)) (pw_and1 (pt_cmp (pc_gt (pe_callB call_len_seq gl ml rfl (pa_cons (hvar _ _ hN hs 2) pa_nil)) pe_int))))) (pss_one (ps_dput hu (hvar _ _ hN hs 0) pe_str (pe_bm0 PySem.F.plainAttrs_list PySem.F.slot_list_pop PySem.F.type_list_pop mt_pop (hvar _ _ hN hs 2)) (by rfl)))) ?_
  refine pss_cons (st 3 rfl rfl (pe_dget hu (hvar _ _ hN hs 0) pe_str (fun _ _ => rfl)) (by rfl)) ?_
  have int1 : ∀ {e : Expr} {te : TE} {p pos : Pos}, PE X e te → starEach [e] X.env = (false, eval e X.env) :: starEach [] X.env → PE X (.Call (.Name "int" p) [e] [] pos) (tInt1 X.w te) := fun he h => pe_callTy (call_b1 xr .int) gi mi rfl (pa_cons he pa_nil h) (by decide) (by decide) h rfl
  refine pss_cons (ps_if (pt_cmp (pc_gt (hvar _ _ hN hs 3) pe_int)) (pss_cons (ps_dput hu (hvar _ _ hN hs 0) pe_str (pe_op op_fdiv (hvar _ _ hN hs 3) (hvar _ _ hN hs 1)) (by rfl)) (pss_one (ps_ret (pe_op op_mod (int1 (hvar _ _ hN hs 3) rfl) (hvar _ _ hN hs 1))))) pss_nil) ?_
  refine pss_cons (ps_dput hu (hvar _ _ hN hs 0) pe_str (pe_op op_add (pe_dget hu (hvar _ _ hN hs 0) pe_str (fun _ _ => rfl)) pe_int) (by rfl)) ?_
  refine pss_cons (st 4 rfl rfl (pe_dget hu (hvar _ _ hN hs 0) pe_str (fun _ _ => rfl)) (by rfl)) ?_
  refine pss_cons (st 5 rfl rfl (pe_op op_mod (int1 (pe_op op_add (pe_dget hu (hvar _ _ hN hs 0) pe_str (fun _ _ => rfl)) (pe_op op_mul (hvar _ _ hN hs 4) pe_int)) rfl) pe_int) (by rfl)) ?_
  refine pss_cons (st 5 rfl rfl (pe_op op_mod (int1 (pe_op op_add (pe_op op_mul (hvar _ _ hN hs 5) (hvar _ _ hN hs 5)) (pe_op op_mul (hvar _ _ hN hs 4) pe_int)) rfl) pe_int) (by rfl)) ?_
  exact pss_one (ps_ret (pe_op op_mod (int1 (pe_op op_fdiv (hvar _ _ hN hs 5) pe_int) rfl) (hvar _ _ hN hs 1)))
end
end Os
end
section
set_option linter.all false
set_option maxRecDepth 100000
set_option maxHeartbeats 4000000
/-! K19r: _law_any_order, _law_open_cells. -/
namespace Os
open PySem PySem.Spec PySem.Calls PyProof.Rows L2
section
variable {X : Cx} {Φ : List FE} {gk : List (Str × D)} {k : Nat}
theorem hvis (N : List Str) (sc : Scope) (hN : X.N = N) (hs : X.env.scope = sc) (i : Nat) {x : Str} {pos : Pos} (h1 : N[i]? = some x := by rfl) (h2 : Vis sc x := by first | exact Or.inl rfl | exact Or.inr (Or.inl rfl) | exact Or.inr (Or.inr rfl)) (h3 : (x == ("__debug__" : Str)) = false := by decide) (h4 : (x == ("__classdict__" : Str)) = false := by decide) : PE X (.Name x pos) (tVar i) :=
  pe_var (by rw [hN]; exact h1) (by rw [hs]; exact h2) h3 h4
/-- the scope of the comprehension that is returned -/
def ocs (st : Stmt) : Scope := match (defBody st).getD 1 (.Pass ⟨0, 0, 0, 0⟩) with
  | .Return (some (.ListComp _ _ sc _)) _ => sc
  | _ => { kind := .function, names := [], isGenerator := false, isCoroutine := false }
theorem der_order (C : XS X Φ gk k) (hP : pickF ∈ Φ) (hN : X.N = orderN) (hs : X.env.scope = defScope t_w_any_order) : PSs X (defBody t_w_any_order) (od0 X.w X.K) := by
  have xr : XR X := C.c.xr
  have gi : Gl X "list" := hgl _ hs
  have mi : X.mg "list" = none := C.c.bl "list" (by decide)
  have ml : X.mg "len" = none := C.c.bl "len" (by decide)
  have gl : Gl X "len" := hgl _ hs
  have gr : Gl X "range" := hgl _ hs
  have mr : X.mg "range" = none := C.c.bl "range" (by decide)
  refine pss_cons (ps_set (i := 2) C.c.nd (by rw [hN]; rfl) (.inr (by rw [hs]; rfl)) (pe_callTy (call_b1 xr .list) gi mi rfl (pa_cons (hvis _ _ hN hs 1) pa_nil)) (by rfl) (.inl (C.fn _))) ?_
  obtain ⟨f, fd, ps, g1, g2, g3, g4, g5⟩ := C.c.fns pickF hP
  have hb : blkC X.N X.env.scope (ocs t_w_any_order) [(("_law_lap" : Str), 3)] = true := by
    rw [hN, hs]
    decide +kernel
  refine pss_one (ps_ret (pe_lc (own := [(("_law_lap" : Str), 3)]) C.c.calm C.c.nd (pi_range1 gr mr (pa_cons (pe_callB call_len_seq gl ml rfl (pa_cons (hvis _ _ hN hs 2) pa_nil)) pa_nil)) (blkOk_by hb) (fun s H C1 cl fp => ?_) (fun s H C1 cl fp => ?_) (fun s H C1 cl fp => ?_)))
  · exact pg_name (i := 3) C.c.nd (by show X.N[3]? = _; rw [hN]; rfl) (.inl rfl)
  · exact pts_nil
  · have hN2 : (X.blk s H (ocs t_w_any_order) (compEnvC (ocs t_w_any_order) cl C1 X.env) fp).N = orderN := hN
    have hs2 : (X.blk s H (ocs t_w_any_order) (compEnvC (ocs t_w_any_order) cl C1 X.env) fp).env.scope = relS (ocs t_w_any_order) (defScope t_w_any_order) := by
      show relS (ocs t_w_any_order) X.env.scope = _
      rw [hs]
    exact pe_bm PySem.F.plainAttrs_list PySem.F.slot_list_pop PySem.F.type_list_pop mt_popAt (hvis _ _ hN2 hs2 2) (pa_cons (pe_fn g5 C.c.rm (hgl _ hs2) g1 g2 g3 (pa_cons (hvis _ _ hN2 hs2 0) (pa_cons (pe_callB call_len_seq (hgl _ hs2) ml rfl (pa_cons (hvis _ _ hN2 hs2 2) pa_nil)) pa_nil)) (by decide) (by rfl) (fun y hy => by rw [List.mem_singleton.mp (show y ∈ [(false, _)] from hy)])) pa_nil)
end
end Os
end
section
set_option linter.all false
set_option maxRecDepth 100000
set_option maxHeartbeats 4000000
/-! K19s: _law_open_cells. -/
namespace Os
open PySem PySem.Spec PySem.Calls PyProof.Rows L2
section
variable {X : Cx} {Φ : List FE} {gk : List (Str × D)} {k : Nat}
/-- the scope of the comprehension that is the i-th statement's value -/
def acs (st : Stmt) (i : Nat) : Scope := match (defBody st).getD i (.Pass ⟨0, 0, 0, 0⟩) with
  | .Assign _ (.ListComp _ _ sc _) _ => sc
  | _ => { kind := .function, names := [], isGenerator := false, isCoroutine := false }
theorem der_open (C : XS X Φ gk k) (hN : X.N = openN) (hs : X.env.scope = defScope t_w_open_cells) : PSs X (defBody t_w_open_cells) (op0 X.w X.K) := by
  have xr : XR X := C.c.xr
  have gi : Gl X "int" := hgl _ hs
  have mi : X.mg "int" = none := C.c.bl "int" (by decide)
  have ma : X.mg "abs" = none := C.c.bl "abs" (by decide)
  have int1 : ∀ {e : Expr} {te : TE} {p pos : Pos}, PE X e te → starEach [e] X.env = (false, eval e X.env) :: starEach [] X.env → PE X (.Call (.Name "int" p) [e] [] pos) (tInt1 X.w te) := fun he h => pe_callTy (call_b1 xr .int) gi mi rfl (pa_cons he pa_nil h) (by decide) (by decide) h rfl
  refine pss_cons (ps_set (i := 1) C.c.nd (by rw [hN]; rfl) (.inl (by rw [hs]; rfl)) pe_int (by rfl) (.inl (C.fn _))) ?_
  refine pss_cons (ps_for C.po C.c.calm (pi_list (hvis _ _ hN hs 0)) (pg_name (i := 2) C.c.nd (by rw [hN]; rfl) (.inl (by rw [hs]; rfl)) (.inl (C.fn _)))
    (pss_one (ps_set (i := 1) C.c.nd (by rw [hN]; rfl) (.inl (by rw [hs]; rfl)) (pe_op op_mod (int1 (pe_op op_add (pe_op op_add (pe_op op_mul (hvis _ _ hN hs 1) pe_int) (pe_op op_mul (hvis _ _ hN hs 2) pe_int)) pe_int) rfl) pe_int) (by rfl) (.inl (C.fn _))))) ?_
  have hb : blkC X.N X.env.scope (acs t_w_open_cells 2) [(("_law_cell" : Str), 2)] = true := by
    rw [hN, hs]
    decide +kernel
  have h2 : X.env.scope.names.lookup ("_law_cells" : Str) = some .local := by
    rw [hs]
    rfl
  refine pss_cons (t := tAsg (tLc (iList X.K (tVar 0)) (gName 2) tYes (tCB (rB1N X.w .abs) (tCons (tVar 2) tNil)) [2]) (gName 3)) (u := op3 X.K) (PS.mk fun pins s σ H D I h => (ps_setLc (i := 3) (own := [(("_law_cell" : Str), 2)]) C.c.calm C.c.nd (by rw [hN]; rfl) h2 (sw_true I.ok.kind h2 rfl rfl) (pi_list (hvis _ _ hN hs 0)) (blkOk_by hb) (fun s H C1 cl fp => pg_name (i := 2) C.c.nd (by show X.N[2]? = _; rw [hN]; rfl) (.inl rfl)) (fun s H C1 cl fp => pts_nil) (fun s H C1 cl fp => ?_)).run pins s σ H D I h) ?_
  · have hN2 : (X.blk s H (acs t_w_open_cells 2) (compEnvC (acs t_w_open_cells 2) cl C1 X.env) fp).N = openN := hN
    have hs2 : (X.blk s H (acs t_w_open_cells 2) (compEnvC (acs t_w_open_cells 2) cl C1 X.env) fp).env.scope = relS (acs t_w_open_cells 2) (defScope t_w_open_cells) := by
      show relS (acs t_w_open_cells 2) X.env.scope = _
      rw [hs]
    exact pe_callB (call_b1 C.c.blk.xr .abs) (hgl _ hs2) ma rfl (pa_cons (hvis _ _ hN2 hs2 2) pa_nil)
  · exact pss_one (ps_ret (pe_disp (pps_cons pe_str (pe_revL (hvis _ _ hN hs 3)) (pps_cons pe_str pe_int (pps_cons pe_str (hvis _ _ hN hs 1) (pps_cons pe_str pe_int pps_nil)))) rfl rfl (by simp) (by decide)))
end
end Os
end
section
set_option linter.all false
set_option maxRecDepth 100000
set_option maxHeartbeats 4000000
/-! K19t: the law's def. -/
namespace Os
open PySem PySem.Spec PySem.Calls PyProof.Rows L2
def spLaw (K : PySem.W.Frag) : Sp := fun vs H Q _ => ∃ (a : Addr) (ns : List Int), vs = [.ref a] ∧ SqL K H a (ns.map V.int) ∧ ns.length ≤ sizeLine ∧ ∀ H', Q (.bl true) H'
theorem S_law2 : FnScope N_law ["_law_script"] (defScope t_law) := ⟨rfl, rfl, rfl, by decide +kernel, rfl, by decide +kernel, by decide +kernel⟩
section
variable {P : Program} {w : World} {K : PySem.W.Frag} {mg : Str → Option Value} {base : Heap} {f fo : Addr} {fd fdo : FuncData}
theorem ok_law {k : Nat} (M : MF P w K mg base F_17 gkL k) (Fd : Fun K "law" "law" t_law f fd) (Fo : FnG P w K mg base k fo fdo ["_law_script"] (spOpen K)) (go : mg "_law_open_cells" = some (.ref fo)) (ko : PySem.W.keepIn K (.ref fo) = true) (bo : Binds K fdo ["_law_script"] []) :
    FnG P w K mg base (k + 1) f fd ["_law_script"] (spLaw K) := by
  refine fnG_body Fd S_law2 (fun vs H Q E ⟨a, ns, h, _⟩ => by rw [h]; rfl) fun cdv A outer s0 H vs Q E room ⟨a, ns, hv, sq, hl, q⟩ => ?_
  have C : XC (cxOf CX0 P w K mg base N_law "law" (defScope t_law) f cdv A outer s0 H E) F_17 gkL k := ⟨rfl, room, S_law2.nd, M.bl, M.fns, M.gks⟩
  have XSo : XS (cxOf CX0 P w K mg base N_law "law" (defScope t_law) f cdv A outer s0 H E) F_17 gkL k := ⟨C, fun _ => rfl, passes_of rfl⟩
  refine ⟨tSeq (tAsg (fun σ H Q => tCons (tVar 0) tNil σ H fun vs H1 => spOpen K vs H1 Q E0) (gName 1)) (tSs w F_17 M_law), ?_, ?_⟩
  · exact pss_cons (ps_set (i := 1) S_law2.nd rfl (Or.inl rfl) (pe_fn Fo room rfl go ko bo (pa_cons (pv 0) pa_nil) (by decide) (by rfl) (fun y hy => nomatch hy)) (by rfl) (.inl rfl)) (sndSs T_law _ XSo rfl rfl)
  · subst hv
    refine ⟨.ref a, rfl, a, ns, rfl, sq, hl, fun b c H' sm hb hc hne e1 e2 => ?_⟩
    obtain ⟨S', hr⟩ := law_runs (openS ns) .un .un .un
    have sr : SrcR (some (b, c)) H' (some (openS ns)) := ⟨e1, e2⟩
    refine ⟨some (b, c), fun _ => False, H', fun _ => False, fun _ => [], [.un, .src, .un, .un], some (openS ns), _, ⟨⟨_, sr⟩, fun _ z => z.elim, fun _ z => z.elim, Keep.refl, sr, rfl, fun i x e => ?_, fun i b hb => (nomatch hb), fun i j b hb => (nomatch hb), fun i b hb => (nomatch hb), fun b z => z.elim⟩, hr, fun v H1 p _ => ?_⟩
    · match i, e with
      | 0, e => cases e; exact trivial
      | 1, e => cases e; exact ⟨b, c, rfl, rfl⟩
      | 2, e => cases e; exact trivial
      | 3, e => cases e; exact trivial
      | n + 4, e => simp at e
    · have hv := p.dat
      cases hv
      exact q H1
end
end Os
end
section
set_option linter.all false
set_option maxRecDepth 100000
set_option maxHeartbeats 4000000
/-! K19u: the assembly. -/
namespace Os
open PySem PySem.Spec PySem.Calls PyProof.Rows L2
theorem S_pick : FnScope pickN ["_law_source", "_law_most"] (defScope t_w_pick) := ⟨rfl, rfl, rfl, by decide +kernel, rfl, by decide +kernel, by decide +kernel⟩
theorem S_order : FnScope orderN ["_law_source", "_law_things"] (defScope t_w_any_order) := ⟨rfl, rfl, rfl, by decide +kernel, rfl, by decide +kernel, by decide +kernel⟩
theorem S_open : FnScope openN ["_law_script"] (defScope t_w_open_cells) := ⟨rfl, rfl, rfl, by decide +kernel, rfl, by decide +kernel, by decide +kernel⟩
theorem FnXG.up {P : Program} {w : World} {K : PySem.W.Frag} {mg : Str → Option Value} {base : Heap} {j k : Nat} {f : Addr} {fd : FuncData} {ps : List Str} {sp : Sp} (F : FnXG P w K mg base j f fd ps sp) (h : j ≤ k) : FnXG P w K mg base k f fd ps sp :=
  ⟨F.size, fun A outer s H args us vs Q E r => F.go A outer s H args us vs Q E (r.mono h)⟩
theorem kit_sub {K : PySem.W.Frag} {C S : Addr} {b : Bool} (hne : (Value.ref C == Value.ref S) = false) (h1 : PySem.W.isClsIn K S = true) (h2 : PySem.W.typeIn K (.ref S) = some (.type "type")) (h3 : PySem.W.subIn K (.ref C) (.ref S) = some b) : PySem.W.kitOne K (.ref C) (.ref S) = some b := by
  have h1' : (PySem.W.clsIn K S).isSome = true := h1
  have e : ((PySem.W.clsIn K S).isSome && PySem.W.typeIn K (.ref S) == some (.type "type")) = true := by
    rw [h1', h2]
    rfl
  unfold PySem.W.kitOne
  rw [hne]
  unfold PySem.W.kitCls
  simp only [e, Bool.false_eq_true, if_false, if_true]
  exact h3
theorem exm_self {K : PySem.W.Frag} {S : Addr} (h1 : PySem.W.subIn K (.ref S) (.type "BaseException") = some true) (h2 : PySem.W.isClsIn K S = true) (h3 : PySem.W.typeIn K (.ref S) = some (.type "type")) (h4 : PySem.W.subIn K (.ref S) (.ref S) = some true) :
    PySem.W.exmOne K (.ref S) (.ref S) = some true := by
  have h2' : (PySem.W.clsIn K S).isSome = true := h2
  have e2 : ((PySem.W.clsIn K S).isSome && PySem.W.typeIn K (.ref S) == some (.type "type")) = true := by
    rw [h2', h3]
    rfl
  unfold PySem.W.exmOne PySem.W.kitCls
  simp only [h1, e2, if_true]
  simpa using h4

theorem all_mk {P : Program} {w : World} {K : PySem.W.Frag} {h : Heap} {mg : Str → Option Value} {fa : Addr} (X : K.In h) (G : h.Ns mainGlobals mg) (hfa : mg "law" = some (.ref fa))
    {f_copied : Addr} {od_copied an_copied : Option Addr} {sl_copied : Array (Option Value)} {oc_copied kV_copied dc_copied pm_copied cd_copied ct_copied : Value}
    {f_come : Addr} {od_come an_come : Option Addr} {sl_come : Array (Option Value)} {oc_come kV_come dc_come pm_come cd_come ct_come : Value}
    {f_is_held : Addr} {od_is_held an_is_held : Option Addr} {sl_is_held : Array (Option Value)} {oc_is_held kV_is_held dc_is_held pm_is_held cd_is_held ct_is_held : Value}
    {f_free_channels : Addr} {od_free_channels an_free_channels : Option Addr} {sl_free_channels : Array (Option Value)} {oc_free_channels kV_free_channels dc_free_channels pm_free_channels cd_free_channels ct_free_channels : Value}
    {f_numbers_left : Addr} {od_numbers_left an_numbers_left : Option Addr} {sl_numbers_left : Array (Option Value)} {oc_numbers_left kV_numbers_left dc_numbers_left pm_numbers_left cd_numbers_left ct_numbers_left : Value}
    {f_place_of : Addr} {od_place_of an_place_of : Option Addr} {sl_place_of : Array (Option Value)} {oc_place_of kV_place_of dc_place_of pm_place_of cd_place_of ct_place_of : Value}
    {f_before : Addr} {od_before an_before : Option Addr} {sl_before : Array (Option Value)} {oc_before kV_before dc_before pm_before cd_before ct_before : Value}
    {f_behind : Addr} {od_behind an_behind : Option Addr} {sl_behind : Array (Option Value)} {oc_behind kV_behind dc_behind pm_behind cd_behind ct_behind : Value}
    {f_numbers_in : Addr} {od_numbers_in an_numbers_in : Option Addr} {sl_numbers_in : Array (Option Value)} {oc_numbers_in kV_numbers_in dc_numbers_in pm_numbers_in cd_numbers_in ct_numbers_in : Value}
    {f_judge_channel : Addr} {od_judge_channel an_judge_channel : Option Addr} {sl_judge_channel : Array (Option Value)} {oc_judge_channel kV_judge_channel dc_judge_channel pm_judge_channel cd_judge_channel ct_judge_channel : Value}
    {f_w_open_cells : Addr} {od_w_open_cells an_w_open_cells : Option Addr} {sl_w_open_cells : Array (Option Value)} {oc_w_open_cells kV_w_open_cells dc_w_open_cells pm_w_open_cells cd_w_open_cells ct_w_open_cells : Value}
    {f_w_pick : Addr} {od_w_pick an_w_pick : Option Addr} {sl_w_pick : Array (Option Value)} {oc_w_pick kV_w_pick dc_w_pick pm_w_pick cd_w_pick ct_w_pick : Value}
    {f_w_any_order : Addr} {od_w_any_order an_w_any_order : Option Addr} {sl_w_any_order : Array (Option Value)} {oc_w_any_order kV_w_any_order dc_w_any_order pm_w_any_order cd_w_any_order ct_w_any_order : Value}
    {f_w_draw_value : Addr} {od_w_draw_value an_w_draw_value : Option Addr} {sl_w_draw_value : Array (Option Value)} {oc_w_draw_value kV_w_draw_value dc_w_draw_value pm_w_draw_value cd_w_draw_value ct_w_draw_value : Value}
    {f_w_draw_things : Addr} {od_w_draw_things an_w_draw_things : Option Addr} {sl_w_draw_things : Array (Option Value)} {oc_w_draw_things kV_w_draw_things dc_w_draw_things pm_w_draw_things cd_w_draw_things ct_w_draw_things : Value}
    {f_w_barred : Addr} {od_w_barred an_w_barred : Option Addr} {sl_w_barred : Array (Option Value)} {oc_w_barred kV_w_barred dc_w_barred pm_w_barred cd_w_barred ct_w_barred : Value}
    {f_w_waiting_right : Addr} {od_w_waiting_right an_w_waiting_right : Option Addr} {sl_w_waiting_right : Array (Option Value)} {oc_w_waiting_right kV_w_waiting_right dc_w_waiting_right pm_w_waiting_right cd_w_waiting_right ct_w_waiting_right : Value}
    {f_w_fault : Addr} {od_w_fault an_w_fault : Option Addr} {sl_w_fault : Array (Option Value)} {oc_w_fault kV_w_fault dc_w_fault pm_w_fault cd_w_fault ct_w_fault : Value}
    {f_w_things_right : Addr} {od_w_things_right an_w_things_right : Option Addr} {sl_w_things_right : Array (Option Value)} {oc_w_things_right kV_w_things_right dc_w_things_right pm_w_things_right cd_w_things_right ct_w_things_right : Value}
    {f_law : Addr} {od_law an_law : Option Addr} {sl_law : Array (Option Value)} {oc_law kV_law dc_law pm_law cd_law ct_law : Value}
    {C S fI cc c : Addr} {nm q : Str} {Nn : Addr} {bs : List Value} {bm : List Value} {sn : List Str} {sub : List Value} {ab : Bool} {col : Option Bool} {dd : Option Addr} {m0 m1 m2 m3 m5 : Option Value}
    {oI kI docI pmI ctI : Value} {odI anI : Option Addr} {slI : Array (Option Value)}
    {ccl : Value} {cdd : Option Addr} {cvs : Array Value} {ccs : Array (Option Value)} {file : Str} {tf : Tok} {ocl : Value} {ocd : Option Addr} {ocs2 : Array (Option Value)}
    (a_copied : PySem.W.nsIn K mainGlobals "copied" = some (some (.ref f_copied)))
    (l_copied : K.lookup f_copied = some ⟨oc_copied, od_copied, .func (PySem.W.fnOf "copied" "copied" (defArgs t_copied) (defBody t_copied) (defScope t_copied) .none kV_copied dc_copied pm_copied an_copied cd_copied ct_copied), sl_copied⟩)
    (c_copied : PySem.W.codeIn K cd_copied "copied" = true)
    (k_copied : PySem.W.keepIn K (.ref f_copied) = true)
    (a_come : PySem.W.nsIn K mainGlobals "come" = some (some (.ref f_come)))
    (l_come : K.lookup f_come = some ⟨oc_come, od_come, .func (PySem.W.fnOf "come" "come" (defArgs t_come) (defBody t_come) (defScope t_come) .none kV_come dc_come pm_come an_come cd_come ct_come), sl_come⟩)
    (c_come : PySem.W.codeIn K cd_come "come" = true)
    (k_come : PySem.W.keepIn K (.ref f_come) = true)
    (a_is_held : PySem.W.nsIn K mainGlobals "is_held" = some (some (.ref f_is_held)))
    (l_is_held : K.lookup f_is_held = some ⟨oc_is_held, od_is_held, .func (PySem.W.fnOf "is_held" "is_held" (defArgs t_is_held) (defBody t_is_held) (defScope t_is_held) .none kV_is_held dc_is_held pm_is_held an_is_held cd_is_held ct_is_held), sl_is_held⟩)
    (c_is_held : PySem.W.codeIn K cd_is_held "is_held" = true)
    (k_is_held : PySem.W.keepIn K (.ref f_is_held) = true)
    (a_free_channels : PySem.W.nsIn K mainGlobals "free_channels" = some (some (.ref f_free_channels)))
    (l_free_channels : K.lookup f_free_channels = some ⟨oc_free_channels, od_free_channels, .func (PySem.W.fnOf "free_channels" "free_channels" (defArgs t_free_channels) (defBody t_free_channels) (defScope t_free_channels) .none kV_free_channels dc_free_channels pm_free_channels an_free_channels cd_free_channels ct_free_channels), sl_free_channels⟩)
    (c_free_channels : PySem.W.codeIn K cd_free_channels "free_channels" = true)
    (k_free_channels : PySem.W.keepIn K (.ref f_free_channels) = true)
    (a_numbers_left : PySem.W.nsIn K mainGlobals "numbers_left" = some (some (.ref f_numbers_left)))
    (l_numbers_left : K.lookup f_numbers_left = some ⟨oc_numbers_left, od_numbers_left, .func (PySem.W.fnOf "numbers_left" "numbers_left" (defArgs t_numbers_left) (defBody t_numbers_left) (defScope t_numbers_left) .none kV_numbers_left dc_numbers_left pm_numbers_left an_numbers_left cd_numbers_left ct_numbers_left), sl_numbers_left⟩)
    (c_numbers_left : PySem.W.codeIn K cd_numbers_left "numbers_left" = true)
    (k_numbers_left : PySem.W.keepIn K (.ref f_numbers_left) = true)
    (a_place_of : PySem.W.nsIn K mainGlobals "place_of" = some (some (.ref f_place_of)))
    (l_place_of : K.lookup f_place_of = some ⟨oc_place_of, od_place_of, .func (PySem.W.fnOf "place_of" "place_of" (defArgs t_place_of) (defBody t_place_of) (defScope t_place_of) .none kV_place_of dc_place_of pm_place_of an_place_of cd_place_of ct_place_of), sl_place_of⟩)
    (c_place_of : PySem.W.codeIn K cd_place_of "place_of" = true)
    (k_place_of : PySem.W.keepIn K (.ref f_place_of) = true)
    (a_before : PySem.W.nsIn K mainGlobals "before" = some (some (.ref f_before)))
    (l_before : K.lookup f_before = some ⟨oc_before, od_before, .func (PySem.W.fnOf "before" "before" (defArgs t_before) (defBody t_before) (defScope t_before) .none kV_before dc_before pm_before an_before cd_before ct_before), sl_before⟩)
    (c_before : PySem.W.codeIn K cd_before "before" = true)
    (k_before : PySem.W.keepIn K (.ref f_before) = true)
    (a_behind : PySem.W.nsIn K mainGlobals "behind" = some (some (.ref f_behind)))
    (l_behind : K.lookup f_behind = some ⟨oc_behind, od_behind, .func (PySem.W.fnOf "behind" "behind" (defArgs t_behind) (defBody t_behind) (defScope t_behind) .none kV_behind dc_behind pm_behind an_behind cd_behind ct_behind), sl_behind⟩)
    (c_behind : PySem.W.codeIn K cd_behind "behind" = true)
    (k_behind : PySem.W.keepIn K (.ref f_behind) = true)
    (a_numbers_in : PySem.W.nsIn K mainGlobals "numbers_in" = some (some (.ref f_numbers_in)))
    (l_numbers_in : K.lookup f_numbers_in = some ⟨oc_numbers_in, od_numbers_in, .func (PySem.W.fnOf "numbers_in" "numbers_in" (defArgs t_numbers_in) (defBody t_numbers_in) (defScope t_numbers_in) .none kV_numbers_in dc_numbers_in pm_numbers_in an_numbers_in cd_numbers_in ct_numbers_in), sl_numbers_in⟩)
    (c_numbers_in : PySem.W.codeIn K cd_numbers_in "numbers_in" = true)
    (k_numbers_in : PySem.W.keepIn K (.ref f_numbers_in) = true)
    (a_judge_channel : PySem.W.nsIn K mainGlobals "judge_channel" = some (some (.ref f_judge_channel)))
    (l_judge_channel : K.lookup f_judge_channel = some ⟨oc_judge_channel, od_judge_channel, .func (PySem.W.fnOf "judge_channel" "judge_channel" (defArgs t_judge_channel) (defBody t_judge_channel) (defScope t_judge_channel) .none kV_judge_channel dc_judge_channel pm_judge_channel an_judge_channel cd_judge_channel ct_judge_channel), sl_judge_channel⟩)
    (c_judge_channel : PySem.W.codeIn K cd_judge_channel "judge_channel" = true)
    (k_judge_channel : PySem.W.keepIn K (.ref f_judge_channel) = true)
    (a_w_open_cells : PySem.W.nsIn K mainGlobals "_law_open_cells" = some (some (.ref f_w_open_cells)))
    (l_w_open_cells : K.lookup f_w_open_cells = some ⟨oc_w_open_cells, od_w_open_cells, .func (PySem.W.fnOf "_law_open_cells" "_law_open_cells" (defArgs t_w_open_cells) (defBody t_w_open_cells) (defScope t_w_open_cells) .none kV_w_open_cells dc_w_open_cells pm_w_open_cells an_w_open_cells cd_w_open_cells ct_w_open_cells), sl_w_open_cells⟩)
    (c_w_open_cells : PySem.W.codeIn K cd_w_open_cells "_law_open_cells" = true)
    (k_w_open_cells : PySem.W.keepIn K (.ref f_w_open_cells) = true)
    (a_w_pick : PySem.W.nsIn K mainGlobals "_law_pick" = some (some (.ref f_w_pick)))
    (l_w_pick : K.lookup f_w_pick = some ⟨oc_w_pick, od_w_pick, .func (PySem.W.fnOf "_law_pick" "_law_pick" (defArgs t_w_pick) (defBody t_w_pick) (defScope t_w_pick) .none kV_w_pick dc_w_pick pm_w_pick an_w_pick cd_w_pick ct_w_pick), sl_w_pick⟩)
    (c_w_pick : PySem.W.codeIn K cd_w_pick "_law_pick" = true)
    (k_w_pick : PySem.W.keepIn K (.ref f_w_pick) = true)
    (a_w_any_order : PySem.W.nsIn K mainGlobals "_law_any_order" = some (some (.ref f_w_any_order)))
    (l_w_any_order : K.lookup f_w_any_order = some ⟨oc_w_any_order, od_w_any_order, .func (PySem.W.fnOf "_law_any_order" "_law_any_order" (defArgs t_w_any_order) (defBody t_w_any_order) (defScope t_w_any_order) .none kV_w_any_order dc_w_any_order pm_w_any_order an_w_any_order cd_w_any_order ct_w_any_order), sl_w_any_order⟩)
    (c_w_any_order : PySem.W.codeIn K cd_w_any_order "_law_any_order" = true)
    (k_w_any_order : PySem.W.keepIn K (.ref f_w_any_order) = true)
    (a_w_draw_value : PySem.W.nsIn K mainGlobals "_law_draw_value" = some (some (.ref f_w_draw_value)))
    (l_w_draw_value : K.lookup f_w_draw_value = some ⟨oc_w_draw_value, od_w_draw_value, .func (PySem.W.fnOf "_law_draw_value" "_law_draw_value" (defArgs t_w_draw_value) (defBody t_w_draw_value) (defScope t_w_draw_value) .none kV_w_draw_value dc_w_draw_value pm_w_draw_value an_w_draw_value cd_w_draw_value ct_w_draw_value), sl_w_draw_value⟩)
    (c_w_draw_value : PySem.W.codeIn K cd_w_draw_value "_law_draw_value" = true)
    (k_w_draw_value : PySem.W.keepIn K (.ref f_w_draw_value) = true)
    (a_w_draw_things : PySem.W.nsIn K mainGlobals "_law_draw_things" = some (some (.ref f_w_draw_things)))
    (l_w_draw_things : K.lookup f_w_draw_things = some ⟨oc_w_draw_things, od_w_draw_things, .func (PySem.W.fnOf "_law_draw_things" "_law_draw_things" (defArgs t_w_draw_things) (defBody t_w_draw_things) (defScope t_w_draw_things) .none kV_w_draw_things dc_w_draw_things pm_w_draw_things an_w_draw_things cd_w_draw_things ct_w_draw_things), sl_w_draw_things⟩)
    (c_w_draw_things : PySem.W.codeIn K cd_w_draw_things "_law_draw_things" = true)
    (k_w_draw_things : PySem.W.keepIn K (.ref f_w_draw_things) = true)
    (a_w_barred : PySem.W.nsIn K mainGlobals "_law_barred" = some (some (.ref f_w_barred)))
    (l_w_barred : K.lookup f_w_barred = some ⟨oc_w_barred, od_w_barred, .func (PySem.W.fnOf "_law_barred" "_law_barred" (defArgs t_w_barred) (defBody t_w_barred) (defScope t_w_barred) .none kV_w_barred dc_w_barred pm_w_barred an_w_barred cd_w_barred ct_w_barred), sl_w_barred⟩)
    (c_w_barred : PySem.W.codeIn K cd_w_barred "_law_barred" = true)
    (k_w_barred : PySem.W.keepIn K (.ref f_w_barred) = true)
    (a_w_waiting_right : PySem.W.nsIn K mainGlobals "_law_waiting_right" = some (some (.ref f_w_waiting_right)))
    (l_w_waiting_right : K.lookup f_w_waiting_right = some ⟨oc_w_waiting_right, od_w_waiting_right, .func (PySem.W.fnOf "_law_waiting_right" "_law_waiting_right" (defArgs t_w_waiting_right) (defBody t_w_waiting_right) (defScope t_w_waiting_right) .none kV_w_waiting_right dc_w_waiting_right pm_w_waiting_right an_w_waiting_right cd_w_waiting_right ct_w_waiting_right), sl_w_waiting_right⟩)
    (c_w_waiting_right : PySem.W.codeIn K cd_w_waiting_right "_law_waiting_right" = true)
    (k_w_waiting_right : PySem.W.keepIn K (.ref f_w_waiting_right) = true)
    (a_w_fault : PySem.W.nsIn K mainGlobals "_law_fault" = some (some (.ref f_w_fault)))
    (l_w_fault : K.lookup f_w_fault = some ⟨oc_w_fault, od_w_fault, .func (PySem.W.fnOf "_law_fault" "_law_fault" (defArgs t_w_fault) (defBody t_w_fault) (defScope t_w_fault) .none kV_w_fault dc_w_fault pm_w_fault an_w_fault cd_w_fault ct_w_fault), sl_w_fault⟩)
    (c_w_fault : PySem.W.codeIn K cd_w_fault "_law_fault" = true)
    (k_w_fault : PySem.W.keepIn K (.ref f_w_fault) = true)
    (a_w_things_right : PySem.W.nsIn K mainGlobals "_law_things_right" = some (some (.ref f_w_things_right)))
    (l_w_things_right : K.lookup f_w_things_right = some ⟨oc_w_things_right, od_w_things_right, .func (PySem.W.fnOf "_law_things_right" "_law_things_right" (defArgs t_w_things_right) (defBody t_w_things_right) (defScope t_w_things_right) .none kV_w_things_right dc_w_things_right pm_w_things_right an_w_things_right cd_w_things_right ct_w_things_right), sl_w_things_right⟩)
    (c_w_things_right : PySem.W.codeIn K cd_w_things_right "_law_things_right" = true)
    (k_w_things_right : PySem.W.keepIn K (.ref f_w_things_right) = true)
    (a_law : PySem.W.nsIn K mainGlobals "law" = some (some (.ref f_law)))
    (l_law : K.lookup f_law = some ⟨oc_law, od_law, .func (PySem.W.fnOf "law" "law" (defArgs t_law) (defBody t_law) (defScope t_law) .none kV_law dc_law pm_law an_law cd_law ct_law), sl_law⟩)
    (c_law : PySem.W.codeIn K cd_law "law" = true)
    (k_law : PySem.W.keepIn K (.ref f_law) = true)
    (z_len : PySem.W.nsIn K mainGlobals "len" = some none)
    (z_tuple : PySem.W.nsIn K mainGlobals "tuple" = some none)
    (z_list : PySem.W.nsIn K mainGlobals "list" = some none)
    (z_sorted : PySem.W.nsIn K mainGlobals "sorted" = some none)
    (z_repr : PySem.W.nsIn K mainGlobals "repr" = some none)
    (z_int : PySem.W.nsIn K mainGlobals "int" = some none)
    (z_abs : PySem.W.nsIn K mainGlobals "abs" = some none)
    (z_sum : PySem.W.nsIn K mainGlobals "sum" = some none)
    (z_all : PySem.W.nsIn K mainGlobals "all" = some none)
    (z_any : PySem.W.nsIn K mainGlobals "any" = some none)
    (z_max : PySem.W.nsIn K mainGlobals "max" = some none)
    (z_min : PySem.W.nsIn K mainGlobals "min" = some none)
    (z_bool : PySem.W.nsIn K mainGlobals "bool" = some none)
    (z_str : PySem.W.nsIn K mainGlobals "str" = some none)
    (z_dict : PySem.W.nsIn K mainGlobals "dict" = some none)
    (z_isinstance : PySem.W.nsIn K mainGlobals "isinstance" = some none)
    (z_range : PySem.W.nsIn K mainGlobals "range" = some none)
    (z_enumerate : PySem.W.nsIn K mainGlobals "enumerate" = some none)
    (z_zip : PySem.W.nsIn K mainGlobals "zip" = some none)
    (z_super : PySem.W.nsIn K mainGlobals "super" = some none)
    (xC : PySem.W.nsIn K mainGlobals "BadBarrier" = some (some (.ref C)))
    (xS : PySem.W.nsIn K mainGlobals "StreamError" = some (some (.ref S)))
    (xL : K.lookup C = some (excClassObj nm q C Nn bs bm true sn sub ab col dd m0 m1 m2 m3 m5 "ValueError.__new__"))
    (xbm : PySem.HandSPX.refsVE bm = true)
    (xsa : PySem.W.findIn K (.ref C) "__setattr__" = some (some (.builtin "object.__setattr__")))
    (xex : PySem.W.subIn K (.ref C) (.type "BaseException") = some true)
    (xty : PySem.W.typeIn K (.ref C) = some (.type "type"))
    (xk : PySem.W.keepIn K (.ref C) = true)
    (xga : PySem.W.findIn K (.ref C) "__getattribute__" = some (some (.builtin "BaseException.__getattribute__")))
    (xgg : PySem.W.findIn K (.ref C) "__getattr__" = some none)
    (xhd : PySem.W.hasDictIn K C = true)
    (xha : PySem.W.findIn K (.ref C) "__class__" = some (some (.builtin "object.__class__")))
    (xhn : PySem.W.specialIn K (.builtin "object.__class__") "__get__" = some (some (.builtin "getset_descriptor.__get__")))
    (xht : PySem.W.takesIn K (.builtin "object.__class__") = some true)
    (xhm : PySem.W.mroIn K C (.type "object") = some true)
    (xno : PySem.W.findIn K (.ref C) "number" = some none)
    (xic : PySem.W.isClsIn K C = true)
    (xcc : PySem.W.subIn K (.ref C) (.ref C) = some true)
    (xne : (Value.ref C == Value.ref S) = false)
    (xis : PySem.W.isClsIn K S = true)
    (xts : PySem.W.typeIn K (.ref S) = some (.type "type"))
    (xcs : PySem.W.subIn K (.ref C) (.ref S) = some true)
    (iC : PySem.W.findIn K (.ref C) "__init__" = some (some (.ref fI)))
    (iT : PySem.W.typeIn K (.ref fI) = some (.type "function"))
    (iL : K.lookup fI = some ⟨oI, odI, .func (PySem.W.fnX "__init__" "BadBarrier.__init__" (defArgs t_init) (defBody t_init) (defScope t_init) [(("__class__" : Str), cc)] .none kI docI pmI anI (.ref c) ctI), slI⟩)
    (iK : PySem.W.codeIn K (.ref c) "BadBarrier.__init__" = true)
    (iR : K.lookup c = some ⟨ccl, cdd, .fields cvs, ccs⟩)
    (iV : cvs[2]? = some (.str file tf))
    (iF : ((P.main.file : Str) == file) = true)
    (iE : K.lookup cc = some ⟨ocl, ocd, .cell (some (.ref C)), ocs2⟩)
    (iM : PySem.W.mroIn K C (.ref C) = some true)
    (iP : (P.main.scope.names.lookup ("super" : Str)).isSome = false)
    (iO : PySem.W.nsIn K cStatics "thirdparty.any" = some none)
    (iS : PySem.W.ks_superIn K C C "__init__" = some (some (.builtin "ValueError.__init__")))
    (iB : PySem.W.subIn K (.ref C) (.type "ValueError") = some true)
    : ∃ fd : FuncData, (∀ (s : Shared) (v : Value), BindsTo s fd ⟨[v], []⟩ [("_law_script", v)]) ∧ ∀ base : Heap, K.In base → base.Ns mainGlobals mg → FnG P w K mg base 24 fa fd ["_law_script"] (spLaw K) := by
  have e := hfa.symm.trans (PySem.W.mg_of X G a_law)
  cases e
  have bl : ∀ x ∈ bNames, mg x = none := by
    intro x hx
    simp only [bNames, List.mem_cons, List.not_mem_nil, or_false] at hx
    rcases hx with rfl | rfl | rfl | rfl | rfl | rfl | rfl | rfl | rfl | rfl | rfl | rfl | rfl | rfl | rfl | rfl | rfl | rfl | rfl
    · exact PySem.W.mg_none_of X G z_len
    · exact PySem.W.mg_none_of X G z_tuple
    · exact PySem.W.mg_none_of X G z_list
    · exact PySem.W.mg_none_of X G z_sorted
    · exact PySem.W.mg_none_of X G z_repr
    · exact PySem.W.mg_none_of X G z_int
    · exact PySem.W.mg_none_of X G z_abs
    · exact PySem.W.mg_none_of X G z_sum
    · exact PySem.W.mg_none_of X G z_all
    · exact PySem.W.mg_none_of X G z_any
    · exact PySem.W.mg_none_of X G z_max
    · exact PySem.W.mg_none_of X G z_min
    · exact PySem.W.mg_none_of X G z_bool
    · exact PySem.W.mg_none_of X G z_str
    · exact PySem.W.mg_none_of X G z_dict
    · exact PySem.W.mg_none_of X G z_isinstance
    · exact PySem.W.mg_none_of X G z_range
    · exact PySem.W.mg_none_of X G z_enumerate
    · exact PySem.W.mg_none_of X G z_zip
  have g_copied := PySem.W.mg_of X G a_copied
  have Fu_copied := fun_mk (st := t_copied) l_copied c_copied k_copied
  have b_copied := Fu_copied.binds (ps := ["value"]) fun _ _ _ _ _ _ us hl => match us, hl with | [_], _ => rfl
  have g_come := PySem.W.mg_of X G a_come
  have Fu_come := fun_mk (st := t_come) l_come c_come k_come
  have b_come := Fu_come.binds (ps := ["waiting", "channels", "channel", "n"]) fun _ _ _ _ _ _ us hl => match us, hl with | [_, _, _, _], _ => rfl
  have g_is_held := PySem.W.mg_of X G a_is_held
  have Fu_is_held := fun_mk (st := t_is_held) l_is_held c_is_held k_is_held
  have b_is_held := Fu_is_held.binds (ps := ["waiting", "channel"]) fun _ _ _ _ _ _ us hl => match us, hl with | [_, _], _ => rfl
  have g_free_channels := PySem.W.mg_of X G a_free_channels
  have Fu_free_channels := fun_mk (st := t_free_channels) l_free_channels c_free_channels k_free_channels
  have b_free_channels := Fu_free_channels.binds (ps := ["waiting", "channels"]) fun _ _ _ _ _ _ us hl => match us, hl with | [_, _], _ => rfl
  have g_numbers_left := PySem.W.mg_of X G a_numbers_left
  have Fu_numbers_left := fun_mk (st := t_numbers_left) l_numbers_left c_numbers_left k_numbers_left
  have b_numbers_left := Fu_numbers_left.binds (ps := ["waiting", "channels"]) fun _ _ _ _ _ _ us hl => match us, hl with | [_, _], _ => rfl
  have g_place_of := PySem.W.mg_of X G a_place_of
  have Fu_place_of := fun_mk (st := t_place_of) l_place_of c_place_of k_place_of
  have b_place_of := Fu_place_of.binds (ps := ["things", "n"]) fun _ _ _ _ _ _ us hl => match us, hl with | [_, _], _ => rfl
  have g_before := PySem.W.mg_of X G a_before
  have Fu_before := fun_mk (st := t_before) l_before c_before k_before
  have b_before := Fu_before.binds (ps := ["things", "n"]) fun _ _ _ _ _ _ us hl => match us, hl with | [_, _], _ => rfl
  have g_behind := PySem.W.mg_of X G a_behind
  have Fu_behind := fun_mk (st := t_behind) l_behind c_behind k_behind
  have b_behind := Fu_behind.binds (ps := ["things", "n"]) fun _ _ _ _ _ _ us hl => match us, hl with | [_, _], _ => rfl
  have g_numbers_in := PySem.W.mg_of X G a_numbers_in
  have Fu_numbers_in := fun_mk (st := t_numbers_in) l_numbers_in c_numbers_in k_numbers_in
  have b_numbers_in := Fu_numbers_in.binds (ps := ["things"]) fun _ _ _ _ _ _ us hl => match us, hl with | [_], _ => rfl
  have g_judge_channel := PySem.W.mg_of X G a_judge_channel
  have Fu_judge_channel := fun_mk (st := t_judge_channel) l_judge_channel c_judge_channel k_judge_channel
  have b_judge_channel := Fu_judge_channel.binds (ps := ["things", "mark"]) fun _ _ _ _ _ _ us hl => match us, hl with | [_, _], _ => rfl
  have g_w_open_cells := PySem.W.mg_of X G a_w_open_cells
  have Fu_w_open_cells := fun_mk (st := t_w_open_cells) l_w_open_cells c_w_open_cells k_w_open_cells
  have b_w_open_cells := Fu_w_open_cells.binds (ps := ["_law_script"]) fun _ _ _ _ _ _ us hl => match us, hl with | [_], _ => rfl
  have g_w_pick := PySem.W.mg_of X G a_w_pick
  have Fu_w_pick := fun_mk (st := t_w_pick) l_w_pick c_w_pick k_w_pick
  have b_w_pick := Fu_w_pick.binds (ps := ["_law_source", "_law_most"]) fun _ _ _ _ _ _ us hl => match us, hl with | [_, _], _ => rfl
  have g_w_any_order := PySem.W.mg_of X G a_w_any_order
  have Fu_w_any_order := fun_mk (st := t_w_any_order) l_w_any_order c_w_any_order k_w_any_order
  have b_w_any_order := Fu_w_any_order.binds (ps := ["_law_source", "_law_things"]) fun _ _ _ _ _ _ us hl => match us, hl with | [_, _], _ => rfl
  have g_w_draw_value := PySem.W.mg_of X G a_w_draw_value
  have Fu_w_draw_value := fun_mk (st := t_w_draw_value) l_w_draw_value c_w_draw_value k_w_draw_value
  have b_w_draw_value := Fu_w_draw_value.binds (ps := ["_law_source", "_law_kind"]) fun _ _ _ _ _ _ us hl => match us, hl with | [_, _], _ => rfl
  have g_w_draw_things := PySem.W.mg_of X G a_w_draw_things
  have Fu_w_draw_things := fun_mk (st := t_w_draw_things) l_w_draw_things c_w_draw_things k_w_draw_things
  have b_w_draw_things := Fu_w_draw_things.binds (ps := ["_law_source", "_law_mark", "_law_numbers", "_law_many"]) fun _ _ _ _ _ _ us hl => match us, hl with | [_, _, _, _], _ => rfl
  have g_w_barred := PySem.W.mg_of X G a_w_barred
  have Fu_w_barred := fun_mk (st := t_w_barred) l_w_barred c_w_barred k_w_barred
  have b_w_barred := Fu_w_barred.binds (ps := ["_law_waiting", "_law_channels", "_law_channel", "_law_n"]) fun _ _ _ _ _ _ us hl => match us, hl with | [_, _, _, _], _ => rfl
  have g_w_waiting_right := PySem.W.mg_of X G a_w_waiting_right
  have Fu_w_waiting_right := fun_mk (st := t_w_waiting_right) l_w_waiting_right c_w_waiting_right k_w_waiting_right
  have b_w_waiting_right := Fu_w_waiting_right.binds (ps := ["_law_source"]) fun _ _ _ _ _ _ us hl => match us, hl with | [_], _ => rfl
  have g_w_fault := PySem.W.mg_of X G a_w_fault
  have Fu_w_fault := fun_mk (st := t_w_fault) l_w_fault c_w_fault k_w_fault
  have b_w_fault := Fu_w_fault.binds (ps := ["_law_things", "_law_mark"]) fun _ _ _ _ _ _ us hl => match us, hl with | [_, _], _ => rfl
  have g_w_things_right := PySem.W.mg_of X G a_w_things_right
  have Fu_w_things_right := fun_mk (st := t_w_things_right) l_w_things_right c_w_things_right k_w_things_right
  have b_w_things_right := Fu_w_things_right.binds (ps := ["_law_source"]) fun _ _ _ _ _ _ us hl => match us, hl with | [_], _ => rfl
  have g_law := PySem.W.mg_of X G a_law
  have Fu_law := fun_mk (st := t_law) l_law c_law k_law
  have OC : OexC K C := ⟨⟨nm, q, Nn, bs, bm, sn, sub, ab, col, dd, m0, m1, m2, m3, m5, xL, xbm⟩, xsa, xex, xty, xk⟩
  have EC : ExcC K C := ⟨xga, xgg, xex, xhd, xha, xhn, xht, xhm⟩
  have XF : XfC K C := ⟨xga, xgg, xex, xhd⟩
  have ST : SupT P K mg C fI cc (Fi cc c) (PySem.W.fnX "__init__" "BadBarrier.__init__" (defArgs t_init) (defBody t_init) (defScope t_init) [(("__class__" : Str), cc)] .none kI docI pmI anI (.ref c) ctI) := ⟨rfl, ⟨oI, .none, kI, docI, pmI, ctI, odI, anI, slI, rfl, iL⟩, iK, ⟨ccl, cdd, cvs, ccs, file, tf, iR, iV, iF⟩, ⟨ocl, ocd, ocs2, iE⟩, iM, iP, PySem.W.mg_none_of X G z_super, iO, iS, iB, rfl, rfl, rfl⟩
  have bI : Binds K (PySem.W.fnX "__init__" "BadBarrier.__init__" (defArgs t_init) (defBody t_init) (defScope t_init) [(("__class__" : Str), cc)] .none kI docI pmI anI (.ref c) ctI) ["self", "number"] [] := .all fun us hl => match us, hl with | [_, _], _ => rfl
  refine ⟨PySem.W.fnOf "law" "law" (defArgs t_law) (defBody t_law) (defScope t_law) .none kV_law dc_law pm_law an_law cd_law ct_law, fun s v => .of_eq rfl, fun base _ _ => ?_⟩
  have M00 : MF P w K mg base F_00 gkL 5 := ⟨bl, fun F hF => (nomatch hF), fun p hp => (nomatch hp)⟩
  have Gcop := ok_copied (P := P) (w := w) (base := base) Fu_copied (bl "isinstance" (by decide)) (bl "list" (by decide)) (bl "tuple" (by decide)) (bl "dict" (by decide))
  have G_come := fn_rule (w := w) (F := E_come) M00 Fu_come S_come T_come rfl rfl (by first | (intro h; exact (by decide +kernel)) | (intro h; cases h))
  have M01 : MF P w K mg base F_01 gkL 6 := M00.push (Nat.le_succ _) g_come k_come b_come rfl G_come
  have G_is_held := fn_rule (w := w) (F := E_is_held) M01 Fu_is_held S_is_held T_is_held rfl rfl (by first | (intro h; exact (by decide +kernel)) | (intro h; cases h))
  have M02 : MF P w K mg base F_02 gkL 7 := M01.push (Nat.le_succ _) g_is_held k_is_held b_is_held rfl G_is_held
  have G_free_channels := fn_rule (w := w) (F := E_free_channels) M02 Fu_free_channels S_free_channels T_free_channels rfl rfl (by first | (intro h; exact (by decide +kernel)) | (intro h; cases h))
  have M03 : MF P w K mg base F_03 gkL 8 := M02.push (Nat.le_succ _) g_free_channels k_free_channels b_free_channels rfl G_free_channels
  have G_numbers_left := fn_rule (w := w) (F := E_numbers_left) M03 Fu_numbers_left S_numbers_left T_numbers_left rfl rfl (by first | (intro h; exact (by decide +kernel)) | (intro h; cases h))
  have M04 : MF P w K mg base F_04 gkL 9 := M03.push (Nat.le_succ _) g_numbers_left k_numbers_left b_numbers_left rfl G_numbers_left
  have G_place_of := fn_rule (w := w) (F := E_place_of) M04 Fu_place_of S_place_of T_place_of rfl rfl (by first | (intro h; exact (by decide +kernel)) | (intro h; cases h))
  have M05 : MF P w K mg base F_05 gkL 10 := M04.push (Nat.le_succ _) g_place_of k_place_of b_place_of rfl G_place_of
  have G_before := fn_rule (w := w) (F := E_before) M05 Fu_before S_before T_before rfl rfl (by first | (intro h; exact (by decide +kernel)) | (intro h; cases h))
  have M06 : MF P w K mg base F_06 gkL 11 := M05.push (Nat.le_succ _) g_before k_before b_before rfl G_before
  have G_behind := fn_rule (w := w) (F := E_behind) M06 Fu_behind S_behind T_behind rfl rfl (by first | (intro h; exact (by decide +kernel)) | (intro h; cases h))
  have M07 : MF P w K mg base F_07 gkL 12 := M06.push (Nat.le_succ _) g_behind k_behind b_behind rfl G_behind
  have G_numbers_in := fn_rule (w := w) (F := E_numbers_in) M07 Fu_numbers_in S_numbers_in T_numbers_in rfl rfl (by first | (intro h; exact (by decide +kernel)) | (intro h; cases h))
  have M08 : MF P w K mg base F_08 gkL 13 := M07.push (Nat.le_succ _) g_numbers_in k_numbers_in b_numbers_in rfl G_numbers_in
  have G_judge_channel := fn_rule (w := w) (F := E_judge_channel) M08 Fu_judge_channel S_judge_channel T_judge_channel rfl rfl (by first | (intro h; exact (by decide +kernel)) | (intro h; cases h))
  have M09 : MF P w K mg base F_09 gkL 14 := M08.push (Nat.le_succ _) g_judge_channel k_judge_channel b_judge_channel rfl G_judge_channel
  have Gopen := fun (M : MF P w K mg base F_17 gkL 22) => hand_rule (w := w) (sp := spOpen K) op0 M Fu_w_open_cells S_open (fun vs H Q E ⟨l, ns, h, _⟩ => by rw [h]; rfl) (fun X C hN hs => der_open C hN hs) open_enter
  have G_w_pick := hand_rule (w := w) (sp := spF w pickF) pk0 M09 Fu_w_pick S_pick (spF_len rfl) (fun X C hN hs => der_pick C hN hs) pick_enter
  have M10 : MF P w K mg base F_10 gkL 15 := M09.push (Nat.le_succ _) g_w_pick k_w_pick b_w_pick rfl G_w_pick
  have G_w_any_order := hand_rule (w := w) (sp := spF w orderF) od0 M10 Fu_w_any_order S_order (spF_len rfl) (fun X C hN hs => der_order C (by simp [F_10]) hN hs) order_enter
  have M11 : MF P w K mg base F_11 gkL 16 := M10.push (Nat.le_succ _) g_w_any_order k_w_any_order b_w_any_order rfl G_w_any_order
  have G_w_draw_value := fn_rule (w := w) (F := E_w_draw_value) M11 Fu_w_draw_value S_w_draw_value T_w_draw_value rfl rfl (by first | (intro h; exact (by decide +kernel)) | (intro h; cases h))
  have M12 : MF P w K mg base F_12 gkL 17 := M11.push (Nat.le_succ _) g_w_draw_value k_w_draw_value b_w_draw_value rfl G_w_draw_value
  have G_w_draw_things := fn_rule (w := w) (F := E_w_draw_things) M12 Fu_w_draw_things S_w_draw_things T_w_draw_things rfl rfl (by first | (intro h; exact (by decide +kernel)) | (intro h; cases h))
  have M13 : MF P w K mg base F_13 gkL 18 := M12.push (Nat.le_succ _) g_w_draw_things k_w_draw_things b_w_draw_things rfl G_w_draw_things
  have Ginit := ok_init (w := w) (base := base) ST OC xno Gcop g_copied k_copied b_copied
  have Gcome := ok_come (w := w) M00 Fu_come OC iC iT Ginit bI (PySem.W.mg_of X G xC) (by decide)
  have G_w_barred := ok_barred (w := w) (k := 18) Fu_w_barred (FnXG.up Gcome (by decide)) g_come k_come b_come (PySem.W.mg_of X G xC) (PySem.W.mg_of X G xS) (bl "isinstance" (by decide)) EC XF xno (exm_self xex xic xty xcc) (kit_sub xne xis xts xcs)
  have M14 : MF P w K mg base F_14 gkL 19 := M13.push (Nat.le_succ _) g_w_barred k_w_barred b_w_barred rfl G_w_barred
  have G_w_waiting_right := fn_rule (w := w) (F := E_w_waiting_right) M14 Fu_w_waiting_right S_w_waiting_right T_w_waiting_right rfl rfl (by first | (intro h; exact (by decide +kernel)) | (intro h; cases h))
  have M15 : MF P w K mg base F_15 gkL 20 := M14.push (Nat.le_succ _) g_w_waiting_right k_w_waiting_right b_w_waiting_right rfl G_w_waiting_right
  have G_w_fault := fn_rule (w := w) (F := E_w_fault) M15 Fu_w_fault S_w_fault T_w_fault rfl rfl (by first | (intro h; exact (by decide +kernel)) | (intro h; cases h))
  have M16 : MF P w K mg base F_16 gkL 21 := M15.push (Nat.le_succ _) g_w_fault k_w_fault b_w_fault rfl G_w_fault
  have G_w_things_right := fn_rule (w := w) (F := E_w_things_right) M16 Fu_w_things_right S_w_things_right T_w_things_right rfl rfl (by first | (intro h; exact (by decide +kernel)) | (intro h; cases h))
  have M17 : MF P w K mg base F_17 gkL 22 := M16.push (Nat.le_succ _) g_w_things_right k_w_things_right b_w_things_right rfl G_w_things_right
  exact ok_law (M17.up (Nat.le_succ _)) Fu_law (Gopen M17) g_w_open_cells k_w_open_cells b_w_open_cells
end Os
end
set_option maxRecDepth 100000 in
set_option maxHeartbeats 0 in
open PySem PySem.W PyProof.Rows in
theorem PySem.Challenge.cw_oncestream_k19_barriers_and_channels_holds : PySem.Challenge.rw_oncestream_k19_barriers_and_channels.Holds := by
  w_on; o_law; k_head; (case hw => w_witness2)
  k_fill
  refine Os.walkG (l := PySem.Challenge.rw_oncestream_k19_barriers_and_channels) (n := 63) (k := 24) (x := "_law_script") (sp := fun K => Os.spLaw K) rfl (by decide) rfl ⟨⟨rfl, by decide, by decide⟩, rfl⟩ (fun w h Y => PySem.W.kIn_of Y) ?F ?S
  case S => exact fun K H a ns hl _ hs => ⟨a, ns, rfl, hs, Nat.le_trans hl (by decide), fun _ => rfl⟩
  case F =>
    intro w mg fa h KX G hmg
    refine' Os.all_mk KX G hmg ?a_copied ?l_copied ?c_copied ?k_copied ?a_come ?l_come ?c_come ?k_come ?a_is_held ?l_is_held ?c_is_held ?k_is_held ?a_free_channels ?l_free_channels ?c_free_channels ?k_free_channels ?a_numbers_left ?l_numbers_left ?c_numbers_left ?k_numbers_left ?a_place_of ?l_place_of ?c_place_of ?k_place_of ?a_before ?l_before ?c_before ?k_before ?a_behind ?l_behind ?c_behind ?k_behind ?a_numbers_in ?l_numbers_in ?c_numbers_in ?k_numbers_in ?a_judge_channel ?l_judge_channel ?c_judge_channel ?k_judge_channel ?a_w_open_cells ?l_w_open_cells ?c_w_open_cells ?k_w_open_cells ?a_w_pick ?l_w_pick ?c_w_pick ?k_w_pick ?a_w_any_order ?l_w_any_order ?c_w_any_order ?k_w_any_order ?a_w_draw_value ?l_w_draw_value ?c_w_draw_value ?k_w_draw_value ?a_w_draw_things ?l_w_draw_things ?c_w_draw_things ?k_w_draw_things ?a_w_barred ?l_w_barred ?c_w_barred ?k_w_barred ?a_w_waiting_right ?l_w_waiting_right ?c_w_waiting_right ?k_w_waiting_right ?a_w_fault ?l_w_fault ?c_w_fault ?k_w_fault ?a_w_things_right ?l_w_things_right ?c_w_things_right ?k_w_things_right ?a_law ?l_law ?c_law ?k_law ?z_len ?z_tuple ?z_list ?z_sorted ?z_repr ?z_int ?z_abs ?z_sum ?z_all ?z_any ?z_max ?z_min ?z_bool ?z_str ?z_dict ?z_isinstance ?z_range ?z_enumerate ?z_zip ?z_super ?xC ?xS ?xL ?xbm ?xsa ?xex ?xty ?xk ?xga ?xgg ?xhd ?xha ?xhn ?xht ?xhm ?xno ?xic ?xcc ?xne ?xis ?xts ?xcs ?iC ?iT ?iL ?iK ?iR ?iV ?iF ?iE ?iM ?iP ?iO ?iS ?iB
    (case a_copied => first | k_is | rfl | decide +kernel)
    (case l_copied => first | k_is | rfl | decide +kernel)
    (case c_copied => first | k_is | rfl | decide +kernel)
    (case k_copied => first | k_is | rfl | decide +kernel)
    (case a_come => first | k_is | rfl | decide +kernel)
    (case l_come => first | k_is | rfl | decide +kernel)
    (case c_come => first | k_is | rfl | decide +kernel)
    (case k_come => first | k_is | rfl | decide +kernel)
    (case a_is_held => first | k_is | rfl | decide +kernel)
    (case l_is_held => first | k_is | rfl | decide +kernel)
    (case c_is_held => first | k_is | rfl | decide +kernel)
    (case k_is_held => first | k_is | rfl | decide +kernel)
    (case a_free_channels => first | k_is | rfl | decide +kernel)
    (case l_free_channels => first | k_is | rfl | decide +kernel)
    (case c_free_channels => first | k_is | rfl | decide +kernel)
    (case k_free_channels => first | k_is | rfl | decide +kernel)
    (case a_numbers_left => first | k_is | rfl | decide +kernel)
    (case l_numbers_left => first | k_is | rfl | decide +kernel)
    (case c_numbers_left => first | k_is | rfl | decide +kernel)
    (case k_numbers_left => first | k_is | rfl | decide +kernel)
    (case a_place_of => first | k_is | rfl | decide +kernel)
    (case l_place_of => first | k_is | rfl | decide +kernel)
    (case c_place_of => first | k_is | rfl | decide +kernel)
    (case k_place_of => first | k_is | rfl | decide +kernel)
    (case a_before => first | k_is | rfl | decide +kernel)
    (case l_before => first | k_is | rfl | decide +kernel)
    (case c_before => first | k_is | rfl | decide +kernel)
    (case k_before => first | k_is | rfl | decide +kernel)
    (case a_behind => first | k_is | rfl | decide +kernel)
    (case l_behind => first | k_is | rfl | decide +kernel)
    (case c_behind => first | k_is | rfl | decide +kernel)
    (case k_behind => first | k_is | rfl | decide +kernel)
    (case a_numbers_in => first | k_is | rfl | decide +kernel)
    (case l_numbers_in => first | k_is | rfl | decide +kernel)
    (case c_numbers_in => first | k_is | rfl | decide +kernel)
    (case k_numbers_in => first | k_is | rfl | decide +kernel)
    (case a_judge_channel => first | k_is | rfl | decide +kernel)
    (case l_judge_channel => first | k_is | rfl | decide +kernel)
    (case c_judge_channel => first | k_is | rfl | decide +kernel)
    (case k_judge_channel => first | k_is | rfl | decide +kernel)
    (case a_w_open_cells => first | k_is | rfl | decide +kernel)
    (case l_w_open_cells => first | k_is | rfl | decide +kernel)
    (case c_w_open_cells => first | k_is | rfl | decide +kernel)
    (case k_w_open_cells => first | k_is | rfl | decide +kernel)
    (case a_w_pick => first | k_is | rfl | decide +kernel)
    (case l_w_pick => first | k_is | rfl | decide +kernel)
    (case c_w_pick => first | k_is | rfl | decide +kernel)
    (case k_w_pick => first | k_is | rfl | decide +kernel)
    (case a_w_any_order => first | k_is | rfl | decide +kernel)
    (case l_w_any_order => first | k_is | rfl | decide +kernel)
    (case c_w_any_order => first | k_is | rfl | decide +kernel)
    (case k_w_any_order => first | k_is | rfl | decide +kernel)
    (case a_w_draw_value => first | k_is | rfl | decide +kernel)
    (case l_w_draw_value => first | k_is | rfl | decide +kernel)
    (case c_w_draw_value => first | k_is | rfl | decide +kernel)
    (case k_w_draw_value => first | k_is | rfl | decide +kernel)
    (case a_w_draw_things => first | k_is | rfl | decide +kernel)
    (case l_w_draw_things => first | k_is | rfl | decide +kernel)
    (case c_w_draw_things => first | k_is | rfl | decide +kernel)
    (case k_w_draw_things => first | k_is | rfl | decide +kernel)
    (case a_w_barred => first | k_is | rfl | decide +kernel)
    (case l_w_barred => first | k_is | rfl | decide +kernel)
    (case c_w_barred => first | k_is | rfl | decide +kernel)
    (case k_w_barred => first | k_is | rfl | decide +kernel)
    (case a_w_waiting_right => first | k_is | rfl | decide +kernel)
    (case l_w_waiting_right => first | k_is | rfl | decide +kernel)
    (case c_w_waiting_right => first | k_is | rfl | decide +kernel)
    (case k_w_waiting_right => first | k_is | rfl | decide +kernel)
    (case a_w_fault => first | k_is | rfl | decide +kernel)
    (case l_w_fault => first | k_is | rfl | decide +kernel)
    (case c_w_fault => first | k_is | rfl | decide +kernel)
    (case k_w_fault => first | k_is | rfl | decide +kernel)
    (case a_w_things_right => first | k_is | rfl | decide +kernel)
    (case l_w_things_right => first | k_is | rfl | decide +kernel)
    (case c_w_things_right => first | k_is | rfl | decide +kernel)
    (case k_w_things_right => first | k_is | rfl | decide +kernel)
    (case a_law => first | k_is | rfl | decide +kernel)
    (case l_law => first | k_is | rfl | decide +kernel)
    (case c_law => first | k_is | rfl | decide +kernel)
    (case k_law => first | k_is | rfl | decide +kernel)
    (case z_len => first | k_is | rfl | decide +kernel)
    (case z_tuple => first | k_is | rfl | decide +kernel)
    (case z_list => first | k_is | rfl | decide +kernel)
    (case z_sorted => first | k_is | rfl | decide +kernel)
    (case z_repr => first | k_is | rfl | decide +kernel)
    (case z_int => first | k_is | rfl | decide +kernel)
    (case z_abs => first | k_is | rfl | decide +kernel)
    (case z_sum => first | k_is | rfl | decide +kernel)
    (case z_all => first | k_is | rfl | decide +kernel)
    (case z_any => first | k_is | rfl | decide +kernel)
    (case z_max => first | k_is | rfl | decide +kernel)
    (case z_min => first | k_is | rfl | decide +kernel)
    (case z_bool => first | k_is | rfl | decide +kernel)
    (case z_str => first | k_is | rfl | decide +kernel)
    (case z_dict => first | k_is | rfl | decide +kernel)
    (case z_isinstance => first | k_is | rfl | decide +kernel)
    (case z_range => first | k_is | rfl | decide +kernel)
    (case z_enumerate => first | k_is | rfl | decide +kernel)
    (case z_zip => first | k_is | rfl | decide +kernel)
    (case z_super => first | k_is | rfl | decide +kernel)
    (case xC => first | k_is | rfl | decide +kernel)
    (case xS => first | k_is | rfl | decide +kernel)
    (case xL => first | k_is | rfl | decide +kernel)
    (case xbm => first | rfl | decide +kernel)
    (case xsa => first | k_is | rfl | decide +kernel)
    (case xex => first | k_is | rfl | decide +kernel)
    (case xty => first | k_is | rfl | decide +kernel)
    (case xk => first | k_is | rfl | decide +kernel)
    (case xga => first | k_is | rfl | decide +kernel)
    (case xgg => first | k_is | rfl | decide +kernel)
    (case xhd => first | k_is | rfl | decide +kernel)
    (case xha => first | k_is | rfl | decide +kernel)
    (case xhn => first | k_is | rfl | decide +kernel)
    (case xht => first | k_is | rfl | decide +kernel)
    (case xhm => first | k_is | rfl | decide +kernel)
    (case xno => first | k_is | rfl | decide +kernel)
    (case xic => first | k_is | rfl | decide +kernel)
    (case xcc => first | k_is | rfl | decide +kernel)
    (case xne => first | rfl | decide +kernel)
    (case xis => first | k_is | rfl | decide +kernel)
    (case xts => first | k_is | rfl | decide +kernel)
    (case xcs => first | k_is | rfl | decide +kernel)
    (case iC => first | k_is | rfl | decide +kernel)
    (case iT => first | k_is | rfl | decide +kernel)
    (case iL => first | k_is | rfl | decide +kernel)
    (case iK => first | k_is | rfl | decide +kernel)
    (case iR => first | k_is | rfl | decide +kernel)
    (case iV => first | rfl | decide +kernel)
    (case iF => first | rfl | decide +kernel)
    (case iE => first | k_is | rfl | decide +kernel)
    (case iM => first | k_is | rfl | decide +kernel)
    (case iP => first | rfl | decide +kernel)
    (case iO => first | k_is | rfl | decide +kernel)
    (case iS => first | rfl | decide +kernel)
    (case iB => first | k_is | rfl | decide +kernel)
